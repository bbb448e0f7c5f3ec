import PyProof.Rows.All
import Wide.All
import OpenK.AllK
import Wide.FinOn
import PyProof.Rows.TupAssign
import PyProof.Rows.ExtendIn
import PyProof.Rows.DictMethods
import PyProof.Rows.CellsFrame
import PyProof.MeetsSeq
import PyProof.CompUse
import KE.KTurnsDict
import KE.KRevIter
import KE.KPairComp
import KE.KDictSum
import Lean
import PySem.Challenge.RW_pq0209_01
set_option Elab.async false
set_option linter.all false
set_option bootstrap.genMatcherCode false
set_option maxRecDepth 100000
set_option maxHeartbeats 4000000
set_option tactic.hygienic false
noncomputable section
open PySem PySem.W PySem.W.X PyProof.Rows
namespace MineH
noncomputable abbrev pw:Program:=PySem.Challenge.pw_pq0209_01
noncomputable def bd:List Stmt:=behindTheImports pw
noncomputable def vs(s:String)(t:Nat):Value:=.str (Str.ofString s) t
noncomputable def de(P:Params)(s:String)(t:Nat)(v:Value):DictEntry:=⟨PyData.keyHash P (Str.ofString s),.str (Str.ofString s) t,v⟩
noncomputable def oT(l:List Value):Obj:={ cls:=.type "tuple",data:=.seq l.toArray }
noncomputable def oF(l:List Value):Obj:={ cls:=.none,data:=.fields l.toArray }
noncomputable def oC(l:List Value):Obj:={ cls:=.type "code",data:=.fields l.toArray }
noncomputable def oD(l:List DictEntry)(n:Nat):Obj:={ cls:=.type "dict",data:=.dict l.toArray n }
noncomputable def oS(l:List DictEntry)(n:Nat):Obj:={ cls:=.none,data:=.dict l.toArray n }
noncomputable def st(i:Nat):Stmt:=(bd.drop i).head?.getD (.Pass ⟨0,0,0,0⟩)
noncomputable def st2(i:Nat):Stmt:=match st i with
 | .ClassDef _ _ _ (s::_) _ _ _ _ _ _ _=>s
 | s=>s
noncomputable def oFn(s:Stmt)(qn:String)(cls:Value)(g:Addr)(pm cd:Value):Obj:=match s with
 | .FunctionDef n a b _ _ _ sc _ _ _=>{ cls,data:=.func { name:=n,qualname:=Str.ofString qn,params:=a,body:=.stmts b,scope:=sc,globals:=g,closure:=[],defaults:=.none,kwdefaults:=.none,pyModule:=pm,code:=cd } }
 | _=>{ cls,data:=.plain }
noncomputable def insAll:BT→Nat→List Obj→BT
 | T,_,[]=>T
 | T,n,o::l=>insAll (T.ins n o) (n + 1) l
noncomputable def setAll:BT→List (Nat × Obj)→BT
 | T,[]=>T
 | T,(a,o)::l=>setAll (T.set a fun _=>o) l
noncomputable def catV(a b:List Value):List Value:=a++b
noncomputable def catE(a b:List DictEntry):List DictEntry:=a++b
noncomputable def eT:Obj:=oT []
noncomputable def eF:Obj:=oF []
noncomputable def nv:Nat→List String→List Value
 | _,[]=>[]
 | t,s::l=>vs s t::nv (t + 1) l
noncomputable def oK(n:String)(t:Nat)(l a f:Int)(r1 r2:Addr)(x1 x2 x3:Value)(r3:Addr)(T:Nat):Obj:=oC [vs n t,vs n (t + 1),vs "/claim/cut.py" (t + 2),.int l 0,.int a 0,.int 0 0,.int 0 0,.int f 0,.ref r1,.bool true,.int 181 0,.ref r2,x1,x2,x3,.ref r3,.int T 0,.int l 0,vs "/claim/cut.py" (T + 1)]
noncomputable def oD0(k:Nat)(n:String):Obj:=oFn (st k) n (.none) 0 (.none) (.none)
noncomputable def oF1(k:Nat)(n m:String)(t c:Nat):Obj:=oFn (st k) n (.type "function") 3 (vs m t) (.ref c)
noncomputable abbrev YY(o:Obj):BT:=.node o .nil .nil
noncomputable def qv:Program:={ pw with main:={ pw.main with body:=[st 187] } }
end MineH
end
noncomputable section
open PySem
namespace Mine
@[irreducible] noncomputable def prog:Program:=PySem.Challenge.rw_pq0209_01.row.prog
theorem prog_eq:prog=PySem.Challenge.rw_pq0209_01.row.prog:=by unfold prog;rfl
structure Pk where
 w:World
 fn:Str→Option Value
 base:Heap
 bb:Str→Option Value
noncomputable def E:Value→Shared→Prop:=fun _ _=>False
theorem noE{E':Value→Shared→Prop}:∀ e s,E e s→E' e s:=fun _ _ h=>h.elim
theorem anyE{α:Type}{M:Model}{A:Around}{t:Sem α}{Q:α→Shared→Prop}{E':Value→Shared→Prop}{s:Shared}(h:wpAny M A t Q E s):wpAny M A t Q E' s:=wpAny_mono h (fun _ _ x=>x) noE
noncomputable abbrev sx(s:Shared)(h:Heap)(tk:Nat):Shared:={ s with heap:=h,toks:=tk }
noncomputable def s_len:Str:=⟨#[108,101,110]⟩
noncomputable def s_abs:Str:=⟨#[97,98,115]⟩
noncomputable def s_max:Str:=⟨#[109,97,120]⟩
noncomputable def s_min:Str:=⟨#[109,105,110]⟩
noncomputable def s_list:Str:=⟨#[108,105,115,116]⟩
noncomputable def s_tuple:Str:=⟨#[116,117,112,108,101]⟩
noncomputable def s_sorted:Str:=⟨#[115,111,114,116,101,100]⟩
noncomputable def s_range:Str:=⟨#[114,97,110,103,101]⟩
noncomputable def s_enumerate:Str:=⟨#[101,110,117,109,101,114,97,116,101]⟩
noncomputable def s_reversed:Str:=⟨#[114,101,118,101,114,115,101,100]⟩
noncomputable def s_append:Str:=⟨#[97,112,112,101,110,100]⟩
noncomputable def s_extend:Str:=⟨#[101,120,116,101,110,100]⟩
noncomputable def s_pop:Str:=⟨#[112,111,112]⟩
noncomputable def s_get:Str:=⟨#[103,101,116]⟩
noncomputable def s_items:Str:=⟨#[105,116,101,109,115]⟩
noncomputable abbrev V:=PyData
theorem bc{p:Prop}(h:¬p→False):p:=Classical.byContradiction h
inductive Bi where
 | len | abs | max | min | maxL | list | tuple | sorted
 deriving DecidableEq
inductive Sl where
 | un
 | va(d:V)
 | ow(d:V)
noncomputable abbrev Rho:=List Sl
noncomputable def truthy:V→Option Bool
 | .bool b=>some b
 | _=>none
noncomputable def okInt(i:Int):Bool:=Nat.blt i.natAbs (2 ^ 4000)
noncomputable def flatD:V→Bool
 | .none=>true
 | .bool _=>true
 | .int _=>true
 | .str x=>PyData.strOk x
 | _=>false
noncomputable def shapedD:Nat→V→Bool
 | 0,d=>flatD d
 | n + 1,d=>match d with
  | .list xs=>xs.all (shapedD n)
  | .tuple xs=>xs.all (shapedD n)
  | d=>flatD d
noncomputable def keyD:Nat→V→Bool
 | 0,_=>false
 | n + 1,d=>match d with
  | .int i=>okInt i
  | .str x=>PyData.strOk x
  | .tuple xs=>xs.all (keyD n)
  | _=>false
noncomputable def kindK:V→Nat
 | .int _=>0
 | .str _=>1
 | .tuple _=>2
 | _=>3
noncomputable def eqK(a b:V):Option Bool:=if keyD 7 a&&keyD 7 b&&kindK a==kindK b then some (PyData.eqv a b) else none
noncomputable def findK(k:V):List (V × V)→Option (Option V)
 | []=>if keyD 7 k then some none else none
 | p::ps=>match eqK k p.1 with
  | some true=>some (some p.2)
  | some false=>findK k ps
  | none=>none
noncomputable def putK(k v:V):List (V × V)→Option (List (V × V))
 | []=>if keyD 7 k then some [(k,v)] else none
 | p::ps=>match eqK k p.1 with
  | some true=>some ((p.1,v)::ps)
  | some false=>(putK k v ps).map (p :: ·)
  | none=>none
noncomputable def delK(k:V):List (V × V)→Option (List (V × V))
 | []=>some []
 | p::ps=>match eqK k p.1 with
  | some true=>some ps
  | some false=>(delK k ps).map (p :: ·)
  | none=>none
noncomputable def insInt(x:Int):List Int→List Int
 | []=>[x]
 | y::ys=>if x < y then x::y::ys else y::insInt x ys
noncomputable def sortInts:List Int→List Int
 | []=>[]
 | x::xs=>insInt x (sortInts xs)
noncomputable def itemsOf:V→Option (List V)
 | .list xs=>some xs
 | .tuple xs=>some xs
 | _=>none
noncomputable def keysOf(ps:List (V × V)):List V:=ps.map (·.1)
noncomputable def upRange(a:Int):Nat→List V
 | 0=>[]
 | n + 1=>.int a::upRange (a + 1) n
noncomputable def downRange(a:Int):Nat→List V
 | 0=>[]
 | n + 1=>.int a::downRange (a - 1) n
noncomputable def enumFrom(i:Int):List V→List (List V)
 | []=>[]
 | x::xs=>[.int i,x]::enumFrom (i + 1) xs
inductive BinR:Operator→V→V→V→Prop
 | addI{a b:Int}:BinR .Add (.int a) (.int b) (.int (a + b))
 | addL{a b:List V}(h:a.length + b.length≤1000000):BinR .Add (.list a) (.list b) (.list (a++b))
 | addT{a b:List V}(h:a.length + b.length≤1000000):BinR .Add (.tuple a) (.tuple b) (.tuple (a++b))
 | sub{a b:Int}:BinR .Sub (.int a) (.int b) (.int (a - b))
 | mul{a b:Int}(h1:okInt a=true)(h2:okInt b=true):BinR .Mult (.int a) (.int b) (.int (a * b))
 | rep{x:V}{b:Int}(h:b.natAbs≤1000000):BinR .Mult (.list [x]) (.int b) (.list (List.replicate b.toNat x))
 | mod{a b:Int}(h:b≠0):BinR .Mod (.int a) (.int b) (.int (a.fmod b))
 | pow{a:Int}{n:Nat}(h:n≤100)(h1:okInt a=true):BinR .Pow (.int a) (.int n) (.int (a ^ n))
 | div{a b:Int}(h:b≠0)(h1:okInt a=true):BinR .FloorDiv (.int a) (.int b) (.int (a.fdiv b))
inductive CmpR:CmpOp→V→V→Bool→Prop
 | eq{x y:V}(h1:shapedD 12 x=true)(h2:shapedD 12 y=true):CmpR .Eq x y (PyData.eqv x y)
 | ne{x y:V}(h1:shapedD 12 x=true)(h2:shapedD 12 y=true):CmpR .NotEq x y (!PyData.eqv x y)
 | lt{a b:Int}:CmpR .Lt (.int a) (.int b) (decide (a < b))
 | le{a b:Int}:CmpR .LtE (.int a) (.int b) (decide (a≤b))
 | gt{a b:Int}:CmpR .Gt (.int a) (.int b) (decide (b < a))
 | ge{a b:Int}:CmpR .GtE (.int a) (.int b) (decide (b≤a))
 | is1:CmpR .Is .none .none true
 | is0{x:V}(h:x ≠ .none):CmpR .Is x .none false
 | not1:CmpR .IsNot .none .none false
 | not0{x:V}(h:x ≠ .none):CmpR .IsNot x .none true
 | inL{x:V}{xs:List V}(h1:shapedD 12 x=true)(h2:xs.all (shapedD 12)=true):CmpR .In x (.list xs) (xs.any fun y=>PyData.eqv y x)
 | inT{x:V}{xs:List V}(h1:shapedD 12 x=true)(h2:xs.all (shapedD 12)=true):CmpR .In x (.tuple xs) (xs.any fun y=>PyData.eqv y x)
 | inD{x:V}{ps:List (V × V)}{f:Option V}(h:findK x ps=some f):CmpR .In x (.dict ps) f.isSome
inductive BiR:Bi→List V→V→Prop
 | lenL{l:List V}(h:l.length≤1000000):BiR .len [.list l] (.int l.length)
 | lenT{l:List V}(h:l.length≤1000000):BiR .len [.tuple l] (.int l.length)
 | abs{i:Int}:BiR .abs [.int i] (.int i.natAbs)
 | max{a b:Int}:BiR .max [.int a,.int b] (.int (if a < b then b else a))
 | min{a b:Int}:BiR .min [.int a,.int b] (.int (if b < a then b else a))
 | maxL{a:Int}{r:List Int}:BiR .maxL [.list (.int a::r.map .int)] (.int (r.foldl (fun a b=>if a < b then b else a) a))
 | listL{l:List V}(h:l.length≤1000000):BiR .list [.list l] (.list l)
 | listT{l:List V}(h:l.length≤1000000):BiR .list [.tuple l] (.list l)
 | tup{l:List V}(h:l.length≤1000000):BiR .tuple [.list l] (.tuple l)
 | sortS{x:Str}{v:V}:BiR .sorted [.dict [(.str x,v)]] (.list [.str x])
 | sortI{ps:List (V × V)}{is:List Int}(hk:keysOf ps=is.map .int)(h:is.length < 64):BiR .sorted [.dict ps] (.list ((sortInts is).map .int))
noncomputable def AtR(xs:List V)(i:Int)(z:V):Prop:=i.natAbs < 4611686018427387904∧∃ j,seqIndex? i xs.length=some j∧xs[j]?=some z
inductive GetR:V→V→V→Prop
 | list{xs:List V}{i:Int}{z:V}(h:AtR xs i z):GetR (.list xs) (.int i) z
 | tuple{xs:List V}{i:Int}{z:V}(h:AtR xs i z):GetR (.tuple xs) (.int i) z
 | dict{ps:List (V × V)}{k z:V}(h:findK k ps=some (some z)):GetR (.dict ps) k z
inductive SliceR:V→Option V→Option V→V→Prop
 | pre{xs:List V}{b:Int}(h:xs.length≤1000000):SliceR (.list xs) none (some (.int b)) (.list (xs.take (clipAt xs.length b)))
 | suf{xs:List V}{a:Int}(h:xs.length≤1000000):SliceR (.list xs) (some (.int a)) none (.list (xs.drop (clipAt xs.length a)))
 | tup{xs:List V}{a:Nat}(h0:1≤a)(h1:a≤xs.length)(h:xs.length≤1000000):SliceR (.tuple xs) (some (.int a)) none (.tuple (xs.drop a))
noncomputable def isCont:V→Bool
 | .list _=>true
 | .dict _=>true
 | _=>false
namespace K
noncomputable abbrev R:=Option V
noncomputable abbrev D:=Rho→(V→R)→R
noncomputable abbrev DL:=Rho→(List V→R)→R
noncomputable abbrev X:=(Rho→R)→(Rho→R)→Rho→R
noncomputable def sN(n:Nat)(k:Nat→R):R:=@Nat.rec (fun _=>R) (k Nat.zero) (fun m _=>k (Nat.succ m)) n
noncomputable def sI(i:Int)(k:Int→R):R:=@Int.rec (fun _=>R) (fun n=>sN n fun n=>k (Int.ofNat n)) (fun n=>sN n fun n=>k (Int.negSucc n)) i
noncomputable def ifB(b:Bool)(x y:R):R:=@Bool.rec (fun _=>R) y x b
noncomputable def bndK(x:R)(k:V→R):R:=@Option.rec V (fun _=>R) none k x
noncomputable def i1:Int:=Int.ofNat (Nat.succ (nat_lit 0))
noncomputable def dN(m n:Nat)(k:Int→R):R:=@Nat.rec (fun _=>R) (sN (Nat.sub m n) fun a=>k (Int.ofNat a)) (fun a _=>sN a fun a=>k (Int.negSucc a)) (Nat.sub n m)
noncomputable def addI(a b:Int)(k:Int→R):R:=@Int.rec (fun _=>R) (fun m=>@Int.rec (fun _=>R) (fun n=>sN (Nat.add m n) fun c=>k (Int.ofNat c)) (fun n=>dN m (Nat.succ n) k) b) (fun m=>@Int.rec (fun _=>R) (fun n=>dN n (Nat.succ m) k) (fun n=>sN (Nat.succ (Nat.add m n)) fun c=>k (Int.negSucc c)) b) a
noncomputable def subI(a b:Int)(k:Int→R):R:=@Int.rec (fun _=>R) (fun m=>@Int.rec (fun _=>R) (fun n=>dN m n k) (fun n=>sN (Nat.succ (Nat.add m n)) fun c=>k (Int.ofNat c)) b) (fun m=>@Int.rec (fun _=>R) (fun n=>sN (Nat.add m n) fun c=>k (Int.negSucc c)) (fun n=>dN n m k) b) a
noncomputable def ngN(n:Nat)(k:Int→R):R:=@Nat.rec (fun _=>R) (k (Int.ofNat Nat.zero)) (fun m _=>sN m fun m=>k (Int.negSucc m)) n
noncomputable def mulI(a b:Int)(k:Int→R):R:=@Int.rec (fun _=>R) (fun m=>@Int.rec (fun _=>R) (fun n=>sN (Nat.mul m n) fun c=>k (Int.ofNat c)) (fun n=>ngN (Nat.mul m (Nat.succ n)) k) b) (fun m=>@Int.rec (fun _=>R) (fun n=>ngN (Nat.mul (Nat.succ m) n) k) (fun n=>sN (Nat.mul (Nat.succ m) (Nat.succ n)) fun c=>k (Int.ofNat c)) b) a
noncomputable abbrev VR(α:Type):=@PyData.rec (fun _=>α) (fun _=>Unit) (fun _=>Unit) (fun _=>Unit)
noncomputable def vInt(x:V)(k:Int→R):R:=VR R none (fun _=>none) k (fun _=>none) (fun _ _=>none) (fun _ _=>none) (fun _ _=>none) () (fun _ _ _ _=>()) () (fun _ _ _ _=>()) (fun _ _ _ _=>()) x
noncomputable def vList(x:V)(k:List V→R):R:=VR R none (fun _=>none) (fun _=>none) (fun _=>none) (fun l _=>k l) (fun _ _=>none) (fun _ _=>none) () (fun _ _ _ _=>()) () (fun _ _ _ _=>()) (fun _ _ _ _=>()) x
noncomputable def vTup(x:V)(k:List V→R):R:=VR R none (fun _=>none) (fun _=>none) (fun _=>none) (fun _ _=>none) (fun l _=>k l) (fun _ _=>none) () (fun _ _ _ _=>()) () (fun _ _ _ _=>()) (fun _ _ _ _=>()) x
noncomputable def vSeq(x:V)(k:List V→R):R:=VR R none (fun _=>none) (fun _=>none) (fun _=>none) (fun l _=>k l) (fun l _=>k l) (fun _ _=>none) () (fun _ _ _ _=>()) () (fun _ _ _ _=>()) (fun _ _ _ _=>()) x
noncomputable def vDict(x:V)(k:List (V × V)→R):R:=VR R none (fun _=>none) (fun _=>none) (fun _=>none) (fun _ _=>none) (fun _ _=>none) (fun l _=>k l) () (fun _ _ _ _=>()) () (fun _ _ _ _=>()) (fun _ _ _ _=>()) x
noncomputable def vTrue(x:V)(a b:R):R:=VR R none (fun t=>ifB t a b) (fun _=>none) (fun _=>none) (fun _ _=>none) (fun _ _=>none) (fun _ _=>none) () (fun _ _ _ _=>()) () (fun _ _ _ _=>()) (fun _ _ _ _=>()) x
noncomputable def appK{α:Type}(xs ys:List α)(k:List α→R):R:=@List.rec α (fun _=>(List α→R)→R) (fun k=>k ys) (fun x _ ih k=>ih fun r=>k (x::r)) xs k
noncomputable def getK{α:Type}(n:Nat)(l:List α)(k:α→R):R:=@Nat.rec (fun _=>List α→R) (fun l=>@List.rec α (fun _=>R) none (fun x _ _=>k x) l) (fun _ ih l=>@List.rec α (fun _=>R) none (fun _ t _=>ih t) l) n l
noncomputable def setK{α:Type}(n:Nat)(a:α)(l:List α)(k:List α→R):R:=@Nat.rec (fun _=>List α→(List α→R)→R) (fun l k=>@List.rec α (fun _=>R) (k []) (fun _ t _=>k (a::t)) l) (fun _ ih l k=>@List.rec α (fun _=>R) (k []) (fun x t _=>ih t fun r=>k (x::r)) l) n l k
noncomputable def dropK{α:Type}(n:Nat)(l:List α)(k:List α→R):R:=@Nat.rec (fun _=>List α→R) k (fun _ ih l=>@List.rec α (fun _=>R) (k []) (fun _ t _=>ih t) l) n l
noncomputable def takeK{α:Type}(n:Nat)(l:List α)(k:List α→R):R:=@Nat.rec (fun _=>List α→(List α→R)→R) (fun _ k=>k []) (fun _ ih l k=>@List.rec α (fun _=>R) (k []) (fun x t _=>ih t fun r=>k (x::r)) l) n l k
noncomputable def lenK{α:Type}(l:List α):Nat:=@List.rec α (fun _=>Nat) Nat.zero (fun _ _ ih=>Nat.add ih (nat_lit 1)) l
noncomputable def revK{α:Type}(l:List α)(k:List α→R):R:=@List.rec α (fun _=>List α→R) k (fun x _ ih acc=>ih (x::acc)) l []
noncomputable def okL{α:Type}(l:List α)(r:R):R:=ifB (Nat.ble (lenK l) (nat_lit 1000000)) r none
noncomputable def okL2{α:Type}(l m:List α)(r:R):R:=ifB (Nat.ble (Nat.add (lenK l) (lenK m)) (nat_lit 1000000)) r none
noncomputable def okS{α:Type}(l:List α)(r:R):R:=ifB (Nat.ble (lenK l) (nat_lit 1000)) r none
noncomputable def lim:Nat:=2 ^ 4000
noncomputable def okN(n:Nat)(a:R):R:=ifB (Nat.blt n lim) a none
noncomputable def okI(i:Int)(k:R):R:=@Int.rec (fun _=>R) (fun n=>okN n k) (fun n=>okN (Nat.succ n) k) i
noncomputable def eSl(s:Sl)(k:V→R):R:=@Sl.rec (fun _=>R) none k (fun _=>none) s
noncomputable def eSlB(s:Sl)(k:V→R):R:=@Sl.rec (fun _=>R) none k k s
noncomputable def eSlO(s:Sl)(k:V→R):R:=@Sl.rec (fun _=>R) none (fun _=>none) k s
noncomputable def cN(b:Bool)(i:Nat):D:=@Bool.rec (fun _=>D) (fun ρ k=>getK i ρ fun s=>eSl s k) (fun ρ k=>getK i ρ fun s=>eSlB s k) b
noncomputable def oN(i:Nat):D:=fun ρ k=>getK i ρ fun s=>eSlO s k
noncomputable def cLit(d:V):D:=fun _ k=>k d
noncomputable def cStuck:D:=fun _ _=>none
noncomputable def lStuck:DL:=fun _ _=>none
noncomputable def nil:DL:=fun _ k=>k []
noncomputable def cons(d:D)(l:DL):DL:=fun ρ k=>d ρ fun x=>l ρ fun xs=>k (x::xs)
noncomputable def cTup(es:DL):D:=fun ρ k=>es ρ fun l=>k (.tuple l)
noncomputable def cList(es:DL):D:=fun ρ k=>es ρ fun l=>k (.list l)
noncomputable def intK(i:Int)(k:V→R):R:=sI i fun i=>k (.int i)
noncomputable def addK(x y:V)(k:V→R):R:=VR R none (fun _=>none) (fun a=>vInt y fun b=>addI a b fun c=>okI c (k (.int c))) (fun _=>none) (fun a _=>vList y fun b=>okL2 a b (appK a b fun r=>k (.list r))) (fun a _=>vTup y fun b=>okL2 a b (appK a b fun r=>k (.tuple r))) (fun _ _=>none) () (fun _ _ _ _=>()) () (fun _ _ _ _=>()) (fun _ _ _ _=>()) x
noncomputable def subK(x y:V)(k:V→R):R:=vInt x fun a=>vInt y fun b=>subI a b fun c=>okI c (k (.int c))
noncomputable def repK(n:Nat)(x:V)(k:List V→R):R:=@Nat.rec (fun _=>(List V→R)→R) (fun k=>k []) (fun _ ih k=>ih fun r=>k (x::r)) n k
noncomputable def repL(b:Int)(x:V)(k:List V→R):R:=@Int.rec (fun _=>R) (fun n=>ifB (Nat.ble n (nat_lit 1000000)) (repK n x k) none) (fun n=>ifB (Nat.blt n (nat_lit 1000000)) (k []) none) b
noncomputable def one(xs:List V)(k:V→R):R:=@List.rec V (fun _=>R) none (fun x t _=>@List.rec V (fun _=>R) (k x) (fun _ _ _=>none) t) xs
noncomputable def two(xs:List V)(k:V→V→R):R:=@List.rec V (fun _=>R) none (fun x t _=>one t (k x)) xs
noncomputable def three(xs:List V)(k:V→V→V→R):R:=@List.rec V (fun _=>R) none (fun x t _=>two t (k x)) xs
noncomputable def mulK(x y:V)(k:V→R):R:=VR R none (fun _=>none) (fun a=>vInt y fun b=>okI a (okI b (mulI a b fun c=>okI c (k (.int c))))) (fun _=>none) (fun a _=>vInt y fun b=>one a fun v=>repL b v fun r=>k (.list r)) (fun _ _=>none) (fun _ _=>none) () (fun _ _ _ _=>()) () (fun _ _ _ _=>()) (fun _ _ _ _=>()) x
noncomputable def nz(b:Int)(k:R):R:=@Int.rec (fun _=>R) (fun n=>@Nat.rec (fun _=>R) none (fun _ _=>k) n) (fun _=>k) b
noncomputable def divK(x y:V)(k:V→R):R:=vInt x fun a=>vInt y fun b=>nz b (okI a (okI b (intK (Int.fdiv a b) k)))
noncomputable def modK(x y:V)(k:V→R):R:=vInt x fun a=>vInt y fun b=>nz b (okI a (okI b (intK (Int.fmod a b) k)))
noncomputable def powK(x y:V)(k:V→R):R:=vInt x fun a=>vInt y fun b=>@Int.rec (fun _=>R) (fun n=>ifB (Nat.ble n (nat_lit 100)) (okI a (sI (Int.pow a n) fun c=>okI c (k (.int c)))) none) (fun _=>none) b
noncomputable def binK(op:Operator)(x y:V)(k:V→R):R:=@Operator.rec (fun _=>R) (addK x y k) (subK x y k) (mulK x y k) none none (modK x y k) (powK x y k) none none none none none (divK x y k) op
noncomputable def cBin(op:Operator)(a b:D):D:=fun ρ k=>a ρ fun x=>b ρ fun y=>binK op x y k
noncomputable def cNeg(a:D):D:=fun ρ k=>a ρ fun x=>vInt x fun i=>intK (Int.neg i) k
noncomputable def cNot(a:D):D:=fun ρ k=>a ρ fun x=>vTrue x (k (.bool false)) (k (.bool true))
noncomputable def cAnd2(a b:D):D:=fun ρ k=>a ρ fun x=>vTrue x (b ρ k) (k x)
noncomputable def cOr2(a b:D):D:=fun ρ k=>a ρ fun x=>vTrue x (k x) (b ρ k)
noncomputable def eqNL(xs:List Nat):List Nat→Bool:=@List.rec Nat (fun _=>List Nat→Bool) (fun ys=>@List.rec Nat (fun _=>Bool) true (fun _ _ _=>false) ys) (fun x _ ih ys=>@List.rec Nat (fun _=>Bool) false (fun y t _=>@Bool.rec (fun _=>Bool) false (ih t) (Nat.beq x y)) ys) xs
noncomputable def eqS(x y:Str):Bool:=eqNL x.cps.toList y.cps.toList
noncomputable def eqI(a b:Int):Bool:=@Int.rec (fun _=>Bool) (fun m=>@Int.rec (fun _=>Bool) (fun n=>Nat.beq m n) (fun _=>false) b) (fun m=>@Int.rec (fun _=>Bool) (fun _=>false) (fun n=>Nat.beq m n) b) a
noncomputable def ltI(a b:Int):Bool:=@Int.rec (fun _=>Bool) (fun m=>@Int.rec (fun _=>Bool) (fun n=>Nat.blt m n) (fun _=>false) b) (fun m=>@Int.rec (fun _=>Bool) (fun _=>true) (fun n=>Nat.blt n m) b) a
noncomputable def bO(b:Bool):Option Bool:=some b
noncomputable def eqV(x:V):V→Option Bool:=@PyData.rec (fun _=>V→Option Bool) (fun _=>List V→Option Bool) (fun _=>Unit) (fun _=>Unit)
 (fun y=>VR (Option Bool) (some true) (fun _=>some false) (fun _=>some false) (fun _=>some false) (fun _ _=>some false) (fun _ _=>some false) (fun _ _=>none) () (fun _ _ _ _=>()) () (fun _ _ _ _=>()) (fun _ _ _ _=>()) y)
 (fun a y=>VR (Option Bool) (some false) (fun b=>some (@Bool.rec (fun _=>Bool) (@Bool.rec (fun _=>Bool) true false b) b a)) (fun _=>none) (fun _=>some false) (fun _ _=>some false) (fun _ _=>some false) (fun _ _=>none) () (fun _ _ _ _=>()) () (fun _ _ _ _=>()) (fun _ _ _ _=>()) y)
 (fun a y=>VR (Option Bool) (some false) (fun _=>none) (fun b=>some (eqI a b)) (fun _=>some false) (fun _ _=>some false) (fun _ _=>some false) (fun _ _=>none) () (fun _ _ _ _=>()) () (fun _ _ _ _=>()) (fun _ _ _ _=>()) y)
 (fun a y=>VR (Option Bool) (some false) (fun _=>some false) (fun _=>some false) (fun b=>some (eqS a b)) (fun _ _=>some false) (fun _ _=>some false) (fun _ _=>none) () (fun _ _ _ _=>()) () (fun _ _ _ _=>()) (fun _ _ _ _=>()) y)
 (fun _ ih y=>VR (Option Bool) (some false) (fun _=>some false) (fun _=>some false) (fun _=>some false) (fun b _=>ih b) (fun _ _=>some false) (fun _ _=>none) () (fun _ _ _ _=>()) () (fun _ _ _ _=>()) (fun _ _ _ _=>()) y)
 (fun _ ih y=>VR (Option Bool) (some false) (fun _=>some false) (fun _=>some false) (fun _=>some false) (fun _ _=>some false) (fun b _=>ih b) (fun _ _=>none) () (fun _ _ _ _=>()) () (fun _ _ _ _=>()) (fun _ _ _ _=>()) y)
 (fun _ _ _=>none)
 (fun ys=>@List.rec V (fun _=>Option Bool) (some true) (fun _ _ _=>some false) ys)
 (fun _ _ e ih ys=>@List.rec V (fun _=>Option Bool) (some false) (fun y t _=>@Option.rec Bool (fun _=>Option Bool) none (fun b=>@Bool.rec (fun _=>Option Bool) (some false) (ih t) b) (e y)) ys)
 () (fun _ _ _ _=>()) (fun _ _ _ _=>()) x
noncomputable def shK(x:V):Nat→Bool:=@PyData.rec (fun _=>Nat→Bool) (fun _=>Nat→Bool) (fun _=>Unit) (fun _=>Unit) (fun _=>true) (fun _ _=>true) (fun _ _=>true) (fun s _=>PyData.strOk s)
 (fun _ ih n=>@Nat.rec (fun _=>Bool) false (fun m _=>ih m) n) (fun _ ih n=>@Nat.rec (fun _=>Bool) false (fun m _=>ih m) n) (fun _ _ _=>false)
 (fun _=>true) (fun _ _ e ih n=>@Bool.rec (fun _=>Bool) false (ih n) (e n)) () (fun _ _ _ _=>()) (fun _ _ _ _=>()) x
noncomputable def okIB(i:Int):Bool:=@Int.rec (fun _=>Bool) (fun n=>Nat.blt n lim) (fun n=>Nat.blt (Nat.succ n) lim) i
noncomputable def keK(x:V):Nat→Bool:=@PyData.rec (fun _=>Nat→Bool) (fun _=>Nat→Bool) (fun _=>Unit) (fun _=>Unit) (fun _=>false) (fun _ _=>false) (fun i n=>@Nat.rec (fun _=>Bool) false (fun _ _=>okIB i) n) (fun s n=>@Nat.rec (fun _=>Bool) false (fun _ _=>PyData.strOk s) n)
 (fun _ _ _=>false) (fun _ ih n=>@Nat.rec (fun _=>Bool) false (fun m _=>ih m) n) (fun _ _ _=>false)
 (fun _=>true) (fun _ _ e ih n=>@Bool.rec (fun _=>Bool) false (ih n) (e n)) () (fun _ _ _ _=>()) (fun _ _ _ _=>()) x
noncomputable def kiK(x:V):Nat:=VR Nat (nat_lit 3) (fun _=>nat_lit 3) (fun _=>nat_lit 0) (fun _=>nat_lit 1) (fun _ _=>nat_lit 3) (fun _ _=>nat_lit 2) (fun _ _=>nat_lit 3) () (fun _ _ _ _=>()) () (fun _ _ _ _=>()) (fun _ _ _ _=>()) x
noncomputable def andO(b:Bool)(o:Option Bool):Option Bool:=@Bool.rec (fun _=>Option Bool) none o b
noncomputable def eqC(x y:V):Option Bool:=andO (shK x (nat_lit 12)) (andO (shK y (nat_lit 12)) (eqV x y))
noncomputable def eqY(x y:V):Option Bool:=andO (keK x (nat_lit 7)) (andO (keK y (nat_lit 7)) (andO (Nat.beq (kiK x) (kiK y)) (eqV x y)))
noncomputable def bB(o:Option Bool)(t f:R):R:=@Option.rec Bool (fun _=>R) none (fun b=>ifB b t f) o
noncomputable def shLs(ys:List V):Bool:=@List.rec V (fun _=>Bool) true (fun y _ ih=>@Bool.rec (fun _=>Bool) false ih (shK y (nat_lit 12))) ys
noncomputable def inK(x:V)(ys:List V)(t f:R):R:=@List.rec V (fun _=>R) f (fun y _ ih=>bB (eqV y x) t ih) ys
noncomputable def inC(x:V)(ys:List V)(t f:R):R:=ifB (shK x (nat_lit 12)) (ifB (shLs ys) (inK x ys t f) none) none
noncomputable def findD(x:V)(ps:List (V × V))(k:V→R)(e:R):R:=@List.rec (V × V) (fun _=>R) (ifB (keK x (nat_lit 7)) e none) (fun p _ ih=>@Prod.rec V V (fun _=>R) (fun a b=>bB (eqY x a) (k b) ih) p) ps
noncomputable def putD(x v:V)(ps:List (V × V))(k:List (V × V)→R):R:=@List.rec (V × V) (fun _=>(List (V × V)→R)→R) (fun k=>ifB (keK x (nat_lit 7)) (k [(x,v)]) none) (fun p t ih k=>@Prod.rec V V (fun _=>R) (fun a b=>bB (eqY x a) (k ((a,v)::t)) (ih fun r=>k ((a,b)::r))) p) ps k
noncomputable def delD(x:V)(ps:List (V × V))(k:List (V × V)→R):R:=@List.rec (V × V) (fun _=>(List (V × V)→R)→R) (fun k=>k []) (fun p t ih k=>@Prod.rec V V (fun _=>R) (fun a b=>bB (eqY x a) (k t) (ih fun r=>k ((a,b)::r))) p) ps k
noncomputable def ltK(x y:V)(t f:R):R:=vInt x fun a=>vInt y fun b=>ifB (ltI a b) t f
noncomputable def inV(x y:V)(t f:R):R:=VR R none (fun _=>none) (fun _=>none) (fun _=>none) (fun l _=>inC x l t f) (fun l _=>inC x l t f) (fun ps _=>findD x ps (fun _=>t) f) () (fun _ _ _ _=>()) () (fun _ _ _ _=>()) (fun _ _ _ _=>()) y
noncomputable def isN(y:V)(t f:R):R:=VR R t (fun _=>f) (fun _=>f) (fun _=>f) (fun _ _=>f) (fun _ _=>f) (fun _ _=>f) () (fun _ _ _ _=>()) () (fun _ _ _ _=>()) (fun _ _ _ _=>()) y
noncomputable def isK(x y:V)(t f:R):R:=isN y (isN x t f) none
noncomputable def cmpK(op:CmpOp)(x y:V)(t f:R):R:=@CmpOp.rec (fun _=>R) (bB (eqC x y) t f) (bB (eqC x y) f t) (ltK x y t f) (ltK y x f t) (ltK y x t f) (ltK x y f t) (isK x y t f) (isK x y f t) (inV x y t f) none op
noncomputable def cCmp(op:CmpOp)(a b:D):D:=fun ρ k=>a ρ fun x=>b ρ fun y=>cmpK op x y (k (.bool true)) (k (.bool false))
noncomputable def cCmp2(o1 o2:CmpOp)(a b c:D):D:=fun ρ k=>a ρ fun x=>b ρ fun y=>cmpK o1 x y (c ρ fun z=>cmpK o2 y z (k (.bool true)) (k (.bool false))) (k (.bool false))
noncomputable def cIte(c x y:D):D:=fun ρ k=>c ρ fun v=>vTrue v (x ρ k) (y ρ k)
noncomputable def cCall(F:List V→R)(es:DL):D:=fun ρ k=>es ρ fun xs=>bndK (F xs) k
noncomputable def absI(a:Int):Int:=@Int.rec (fun _=>Int) (fun n=>Int.ofNat n) (fun n=>Int.ofNat (Nat.succ n)) a
noncomputable def maxL(l:List V)(a:Int)(k:V→R):R:=@List.rec V (fun _=>Int→R) (fun a=>k (.int a)) (fun y _ ih a=>vInt y fun b=>@Bool.rec (fun _=>R) (ih a) (ih b) (ltI a b)) l a
noncomputable def insK(x:Int)(l:List V)(k:List V→R):R:=@List.rec V (fun _=>(List V→R)→R) (fun k=>k [.int x]) (fun y t ih k=>vInt y fun b=>ifB (ltI x b) (k (.int x::y::t)) (ih fun r=>k (y::r))) l k
noncomputable def sortK(ps:List (V × V))(k:List V→R):R:=@List.rec (V × V) (fun _=>(List V→R)→R) (fun k=>k []) (fun p _ ih k=>@Prod.rec V V (fun _=>R) (fun x _=>vInt x fun a=>ih fun r=>insK a r k) p) ps k
noncomputable def sortD(ps:List (V × V))(k:List V→R):R:=ifB (Nat.blt (lenK ps) (nat_lit 64)) (@List.rec (V × V) (fun _=>R) (k []) (fun p t _=>@Prod.rec V V (fun _=>R) (fun x _=>
 VR R none (fun _=>none) (fun _=>sortK ps k) (fun s=>@List.rec (V × V) (fun _=>R) (k [x]) (fun _ _ _=>none) t) (fun _ _=>none) (fun _ _=>none) (fun _ _=>none) () (fun _ _ _ _=>()) () (fun _ _ _ _=>()) (fun _ _ _ _=>()) x) p) ps) none
noncomputable def biK(f:Bi)(xs:List V)(k:V→R):R:=@Bi.rec (fun _=>R)
 (one xs fun x=>vSeq x fun l=>okL l (sN (lenK l) fun n=>k (.int (Int.ofNat n))))
 (one xs fun x=>vInt x fun i=>intK (absI i) k)
 (two xs fun x y=>vInt x fun a=>vInt y fun b=>ifB (ltI a b) (k (.int b)) (k (.int a)))
 (two xs fun x y=>vInt x fun a=>vInt y fun b=>ifB (ltI b a) (k (.int b)) (k (.int a)))
 (one xs fun x=>vList x fun l=>@List.rec V (fun _=>R) none (fun y t _=>vInt y fun a=>maxL t a k) l)
 (one xs fun x=>vSeq x fun l=>okL l (k (.list l)))
 (one xs fun x=>vList x fun l=>okL l (k (.tuple l)))
 (one xs fun x=>vDict x fun ps=>sortD ps fun r=>k (.list r)) f
noncomputable def cBi(f:Bi)(es:DL):D:=fun ρ k=>es ρ fun xs=>biK f xs k
noncomputable def atK(l:List V)(i:Int)(k:V→R):R:=@Int.rec (fun _=>R) (fun n=>ifB (Nat.blt n (nat_lit 4611686018427387904)) (getK n l k) none) (fun n=>ifB (Nat.blt (Nat.succ n) (nat_lit 4611686018427387904)) (ifB (Nat.blt n (lenK l)) (getK (Nat.sub (lenK l) (Nat.succ n)) l k) none) none) i
noncomputable def getV'(x y:V)(k:V→R):R:=VR R none (fun _=>none) (fun _=>none) (fun _=>none) (fun l _=>vInt y fun i=>atK l i k) (fun l _=>vInt y fun i=>atK l i k) (fun ps _=>findD y ps k none) () (fun _ _ _ _=>()) () (fun _ _ _ _=>()) (fun _ _ _ _=>()) x
noncomputable def cSub(a i:D):D:=fun ρ k=>a ρ fun x=>i ρ fun y=>getV' x y k
noncomputable def clK(n:Nat)(i:Int):Nat:=@Int.rec (fun _=>Nat) (fun m=>@Bool.rec (fun _=>Nat) n m (Nat.ble m n)) (fun m=>Nat.sub n (Nat.succ m)) i
noncomputable def evO(o:Option D)(ρ:Rho)(k:Option V→R):R:=@Option.rec D (fun _=>R) (k none) (fun d=>d ρ fun x=>k (some x)) o
noncomputable def slL(l:List V)(lo hi:Option V)(k:List V→R):R:=@Option.rec V (fun _=>R) (@Option.rec V (fun _=>R) none (fun h=>vInt h fun h=>takeK (clK (lenK l) h) l k) hi) (fun a=>vInt a fun a=>@Option.rec V (fun _=>R) (dropK (clK (lenK l) a) l k) (fun _=>none) hi) lo
noncomputable def slT(l:List V)(lo hi:Option V)(k:List V→R):R:=@Option.rec V (fun _=>R) none (fun a=>vInt a fun a=>@Option.rec V (fun _=>R) (@Int.rec (fun _=>R) (fun n=>@Nat.rec (fun _=>R) none (fun _ _=>ifB (Nat.ble n (lenK l)) (dropK n l k) none) n) (fun _=>none) a) (fun _=>none) hi) lo
noncomputable def slK(x:V)(lo hi:Option V)(k:V→R):R:=VR R none (fun _=>none) (fun _=>none) (fun _=>none) (fun l _=>okL l (slL l lo hi fun r=>k (.list r))) (fun l _=>okL l (slT l lo hi fun r=>k (.tuple r))) (fun _ _=>none) () (fun _ _ _ _=>()) () (fun _ _ _ _=>()) (fun _ _ _ _=>()) x
noncomputable def cSlice(a:D)(lo hi:Option D):D:=fun ρ k=>a ρ fun x=>evO lo ρ fun lo=>evO hi ρ fun hi=>slK x lo hi k
noncomputable def cRev(a:D):D:=fun ρ k=>a ρ fun x=>vList x fun l=>okL l (revK l fun r=>k (.list r))
noncomputable def cGet2(i:Nat)(a b:D):D:=fun ρ k=>getK i ρ fun s=>eSlB s fun x=>vDict x fun ps=>a ρ fun y=>b ρ fun d=>findD y ps k (k d)
noncomputable def upK(n:Nat)(a:Int)(k:List V→R):R:=@Nat.rec (fun _=>Int→(List V→R)→R) (fun _ k=>k []) (fun _ ih a k=>addI a i1 fun b=>ih b fun r=>k (.int a::r)) n a k
noncomputable def downK(n:Nat)(a:Int)(k:List V→R):R:=@Nat.rec (fun _=>Int→(List V→R)→R) (fun _ k=>k []) (fun _ ih a k=>subI a i1 fun b=>ih b fun r=>k (.int a::r)) n a k
noncomputable def diK(a b:Int)(k:Nat→R):R:=subI a b fun c=>@Int.rec (fun _=>R) k (fun _=>k Nat.zero) c
noncomputable def sm(a:Int)(r:R):R:=@Int.rec (fun _=>R) (fun n=>ifB (Nat.ble n (nat_lit 100000)) r none) (fun n=>ifB (Nat.blt n (nat_lit 100000)) r none) a
noncomputable def m1(c:Int)(r:R):R:=@Int.rec (fun _=>R) (fun _=>none) (fun n=>@Nat.rec (fun _=>R) r (fun _ _=>none) n) c
noncomputable def srcK(it:Nat)(xs:List V)(k:List V→R):R:=match it with
 | 0=>one xs fun x=>vSeq x fun l=>okL l (k l)
 | 1=>one xs fun x=>vInt x fun b=>sm b (diK b (Int.ofNat Nat.zero) fun n=>upK n (Int.ofNat Nat.zero) k)
 | 2=>two xs fun x y=>vInt x fun a=>vInt y fun b=>sm a (sm b (diK b a fun n=>upK n a k))
 | 3=>three xs fun x y c=>vInt x fun a=>vInt y fun b=>vInt c fun c=>m1 c (sm a (sm b (diK a b fun n=>downK n a k)))
 | 5=>one xs fun x=>vList x fun l=>okL l (revK l k)
 | _=>none
noncomputable def rows1(l:List V)(k:List (List V)→R):R:=@List.rec V (fun _=>(List (List V)→R)→R) (fun k=>k []) (fun x _ ih k=>ih fun r=>k ([x]::r)) l k
noncomputable def rowsE(l:List V)(i:Int)(k:List (List V)→R):R:=@List.rec V (fun _=>Int→(List (List V)→R)→R) (fun _ k=>k []) (fun x _ ih i k=>addI i i1 fun j=>ih j fun r=>k ([.int i,x]::r)) l i k
noncomputable def rowsP(l:List (V × V))(k:List (List V)→R):R:=@List.rec (V × V) (fun _=>(List (List V)→R)→R) (fun k=>k []) (fun p _ ih k=>@Prod.rec V V (fun _=>R) (fun a b=>ih fun r=>k ([a,b]::r)) p) l k
noncomputable def rowsK(it:Nat)(xs:List V)(k:List (List V)→R):R:=match it with
 | 4=>one xs fun x=>vList x fun l=>okL l (rowsE l (Int.ofNat Nat.zero) k)
 | 6=>one xs fun x=>vDict x fun l=>okL l (rowsP l k)
 | it=>srcK it xs fun l=>rows1 l k
noncomputable def bindK(ρ:Rho)(row:List V)(k:Rho→R):R:=@List.rec Sl (fun _=>(Rho→R)→R) (fun k=>@List.rec V (fun _=>(Rho→R)→R) (fun k=>k []) (fun x _ ih k=>ih fun r=>k (.va x::r)) row k) (fun x _ ih k=>ih fun r=>k (x::r)) ρ k
noncomputable abbrev TL:=Rho→R→R→R
noncomputable def tnil:TL:=fun _ t _=>t
noncomputable def tStuck:TL:=fun _ _ _=>none
noncomputable def tcons(d:D)(l:TL):TL:=fun ρ t f=>d ρ fun v=>vTrue v (l ρ t f) f
noncomputable def compK(elt:D)(ifs:TL)(ρ:Rho)(rows:List (List V))(k:List V→R):R:=@List.rec (List V) (fun _=>(List V→R)→R) (fun k=>k []) (fun row _ ih k=>bindK ρ row fun ρ'=>ifs ρ' (elt ρ' fun y=>ih fun r=>k (y::r)) (ih k)) rows k
noncomputable def cComp(elt:D)(it:Nat)(xs:DL)(ifs:TL):D:=fun ρ k=>xs ρ fun vs=>rowsK it vs fun rows=>compK elt ifs ρ rows fun r=>k (.list r)
noncomputable def compK2(elt b:D)(ρ:Rho)(l:List V)(k:List V→R):R:=@List.rec V (fun _=>(List V→R)→R) (fun k=>k []) (fun x _ ih k=>bindK ρ [x] fun ρ1=>appK ρ1 [.un] fun ρ2=>b ρ2 fun y=>vList y fun l2=>okS l2 (
 @List.rec V (fun _=>(List V→R)→R) ih (fun y _ ih2 k=>bindK ρ1 [y] fun ρ3=>elt ρ3 fun z=>ih2 fun r=>k (z::r)) l2 k)) l k
noncomputable def cComp2(elt a b:D):D:=fun ρ k=>a ρ fun x=>vList x fun l=>okS l (compK2 elt b ρ l fun r=>k (.list r))
noncomputable def dcompK(a b:D)(ifs:TL)(ρ:Rho)(l:List V)(acc:List (V × V))(k:List (V × V)→R):R:=@List.rec V (fun _=>List (V × V)→R) k (fun x _ ih acc=>bindK ρ [x] fun ρ'=>ifs ρ' (a ρ' fun y=>b ρ' fun z=>okL acc (putD y z acc ih)) (ih acc)) l acc
noncomputable def cDcomp(a b c:D)(ifs:TL):D:=fun ρ k=>c ρ fun x=>vList x fun l=>okL l (dcompK a b ifs ρ l [] fun r=>k (.dict r))
noncomputable def cD0:D:=fun _ k=>k (.dict [])
noncomputable def ownK(own:Bool)(d:V)(k:Sl→R):R:=@Bool.rec (fun _=>R) (k (.va d)) (VR R (k (.va d)) (fun _=>k (.va d)) (fun _=>k (.va d)) (fun _=>k (.va d)) (fun _ _=>k (.ow d)) (fun _ _=>k (.va d)) (fun _ _=>k (.ow d)) () (fun _ _ _ _=>()) () (fun _ _ _ _=>()) (fun _ _ _ _=>()) d) own
noncomputable def xStuck:X:=fun _ _ _=>none
noncomputable def frzK(i:Nat)(ρ:Rho)(k:Rho→R):R:=getK i ρ fun s=>@Sl.rec (fun _=>R) (k ρ) (fun _=>k ρ) (fun d=>setK i (.va d) ρ k) s
noncomputable def xFrz(is:List Nat)(s:X):X:=fun kc kn ρ=>@List.rec Nat (fun _=>Rho→R) (s kc kn) (fun i _ ih ρ=>frzK i ρ ih) is ρ
noncomputable def xRet(e:D):X:=fun _ _ ρ=>e ρ some
noncomputable def xAsg(i:Nat)(own:Bool)(e:D):X:=fun _ kn ρ=>e ρ fun d=>ownK own d fun s=>setK i s ρ kn
noncomputable abbrev TgL:=Rho→List V→(Rho→R)→R
noncomputable def gStuck:TgL:=fun _ _ _=>none
noncomputable def gnil:TgL:=fun ρ xs k=>@List.rec V (fun _=>R) (k ρ) (fun _ _ _=>none) xs
noncomputable def gnm(i:Nat)(own:Bool)(l:TgL):TgL:=fun ρ xs k=>@List.rec V (fun _=>R) none (fun x t _=>ownK own x fun s=>setK i s ρ fun ρ=>l ρ t k) xs
noncomputable def setV'(c y d:V)(k:V→R):R:=VR R none (fun _=>none) (fun _=>none) (fun _=>none) (fun l _=>vInt y fun i=>@Int.rec (fun _=>R) (fun n=>ifB (Nat.blt n (lenK l)) (okL l (setK n d l fun r=>k (.list r))) none) (fun _=>none) i) (fun _ _=>none) (fun ps _=>okL ps (putD y d ps fun r=>k (.dict r))) () (fun _ _ _ _=>()) () (fun _ _ _ _=>()) (fun _ _ _ _=>()) c
noncomputable def git(i:Nat)(e:D)(l:TgL):TgL:=fun ρ xs k=>@List.rec V (fun _=>R) none (fun x t _=>oN i ρ fun c=>e ρ fun y=>setV' c y x fun c=>setK i (.ow c) ρ fun ρ=>l ρ t k) xs
noncomputable def xAsgL(ts:TgL)(es:DL):X:=fun _ kn ρ=>es ρ fun xs=>ts ρ xs kn
noncomputable def storeK(is:List Nat)(ρ:Rho)(xs:List V)(k:Rho→R):R:=@List.rec Nat (fun _=>Rho→List V→R) (fun ρ xs=>@List.rec V (fun _=>R) (k ρ) (fun _ _ _=>none) xs) (fun i _ ih ρ xs=>@List.rec V (fun _=>R) none (fun x t _=>setK i (.va x) ρ fun ρ=>ih ρ t) xs) is ρ xs
noncomputable def xAsgT(is:List Nat)(e:D):X:=fun _ kn ρ=>e ρ fun x=>vTup x fun l=>storeK is ρ l kn
noncomputable def xSetI(i:Nat)(a e:D):X:=fun _ kn ρ=>e ρ fun d=>oN i ρ fun c=>a ρ fun y=>setV' c y d fun c=>setK i (.ow c) ρ kn
noncomputable def xAugI(i:Nat)(a:D)(op:Operator)(e:D):X:=fun _ kn ρ=>oN i ρ fun c=>vList c fun l=>a ρ fun y=>vInt y fun j=>atK l j fun old=>vInt old fun old=>e ρ fun d=>vInt d fun d=>binK op (.int old) (.int d) fun z=>setV' (.list l) y z fun c=>setK i (.ow c) ρ kn
noncomputable def xAug(i:Nat)(op:Operator)(e:D):X:=fun _ kn ρ=>cN false i ρ fun old=>vInt old fun a=>e ρ fun d=>vInt d fun b=>binK op (.int a) (.int b) fun z=>setK i (.va z) ρ kn
noncomputable def xApp(i:Nat)(e:D):X:=fun _ kn ρ=>oN i ρ fun c=>vList c fun l=>e ρ fun d=>okL l (appK l [d] fun r=>setK i (.ow (.list r)) ρ kn)
noncomputable def xExt(i:Nat)(e:D):X:=fun _ kn ρ=>oN i ρ fun c=>vList c fun l=>e ρ fun d=>vList d fun l2=>okL2 l l2 (appK l l2 fun r=>setK i (.ow (.list r)) ρ kn)
noncomputable def popK(l:List V)(k:V→List V→R):R:=revK l fun r=>@List.rec V (fun _=>R) none (fun x t _=>revK t fun t=>k x t) r
noncomputable def xPop(i x:Nat):X:=fun _ kn ρ=>oN x ρ fun c=>vList c fun l=>okL l (popK l fun d r=>setK x (.ow (.list r)) ρ fun ρ=>setK i (.va d) ρ kn)
noncomputable def xPopD(i x:Nat)(a b:D):X:=fun _ kn ρ=>oN x ρ fun c=>vDict c fun ps=>a ρ fun y=>b ρ fun d=>vTup y fun _=>okL ps (findD y ps (fun v=>delD y ps fun r=>setK x (.ow (.dict r)) ρ fun ρ=>setK i (.va v) ρ kn) (setK i (.va d) ρ kn))
noncomputable def xLend(L:List V→R)(x:Nat)(es:DL):X:=fun _ kn ρ=>oN x ρ fun c=>es ρ fun ds=>bndK (L (c::ds)) fun c=>vList c fun _=>setK x (.ow c) ρ kn
noncomputable def xDrop(e:D):X:=fun _ kn ρ=>e ρ fun x=>isN x (kn ρ) none
noncomputable def xNil:X:=fun _ kn ρ=>kn ρ
noncomputable def xSeq(a b:X):X:=fun kc kn ρ=>a kc (fun ρ=>b kc kn ρ) ρ
noncomputable def xIte(c:D)(t f:X):X:=fun kc kn ρ=>c ρ fun v=>vTrue v (t kc kn ρ) (f kc kn ρ)
noncomputable def xWhl(N:Nat)(c:D)(b:X):X:=fun _ kn ρ=>@Nat.rec (fun _=>Rho→R) (fun _=>none) (fun _ ih ρ=>c ρ fun v=>vTrue v (b ih ih ρ) (kn ρ)) N ρ
noncomputable def xFor(ts:List Nat)(it:Nat)(xs:DL)(b:X):X:=fun _ kn ρ=>xs ρ fun vs=>rowsK it vs fun rows=>@List.rec (List V) (fun _=>Rho→R) kn (fun row _ ih ρ=>storeK ts ρ row fun ρ=>b ih ih ρ) rows ρ
noncomputable def xCont:X:=fun kc _ ρ=>kc ρ
noncomputable def unsK(n:Nat)(k:Rho→R):R:=@Nat.rec (fun _=>(Rho→R)→R) (fun k=>k []) (fun _ ih k=>ih fun r=>k (.un::r)) n k
noncomputable def rhoK(xs:List V)(un:Nat)(k:Rho→R):R:=@List.rec V (fun _=>(Rho→R)→R) (unsK un) (fun x _ ih k=>ih fun r=>k (.va x::r)) xs k
noncomputable def fnK(un:Nat)(b:X)(xs:List V):R:=rhoK xs un fun ρ=>b (fun _=>none) (fun _=>some .none) ρ
noncomputable def lnK(un:Nat)(b:X)(xs:List V):R:=@List.rec V (fun _=>R) none (fun c t _=>rhoK t un fun ρ=>b (fun _=>none) (fun ρ=>getK Nat.zero ρ fun s=>eSlO s some) (.ow c :: ρ)) xs
end K
end Mine
end
noncomputable section
open PySem
namespace Mine
namespace K
variable{z:V}
theorem sN_eq(n:Nat)(k:Nat→R):sN n k=k n:=by cases n <;> rfl
theorem sI_eq(i:Int)(k:Int→R):sI i k=k i:=by cases i with | ofNat n=>exact sN_eq n fun n=>k (Int.ofNat n) | negSucc n=>exact sN_eq n fun n=>k (Int.negSucc n)
theorem ifB_some{b:Bool}{x y:R}(h:ifB b x y=some z):(b=true∧x=some z)∨(b=false∧y=some z):=by cases b with | true=>exact .inl ⟨rfl,h⟩ | false=>exact .inr ⟨rfl,h⟩
theorem ifB_then{b:Bool}{x:R}(h:ifB b x none=some z):b=true∧x=some z:=by cases b with | true=>exact⟨rfl,h⟩ | false=>cases h
theorem ifB_if{b:Bool}{x y:R}:ifB b x y=if b then x else y:=by cases b <;> rfl
theorem bndK_some{x:R}{k:V→R}(h:bndK x k=some z):∃ y,x=some y∧k y=some z:=by cases x with | none=>cases h | some y=>exact⟨y,rfl,h⟩
theorem dN_eq(m n:Nat)(k:Int→R):dN m n k=k ((m:Int) - n):=by
 unfold dN
 cases q:Nat.sub n m with
 | zero=>
  have q':n - m=0:=q
  show sN (Nat.sub m n) _=_
  rw[sN_eq]
  congr 1
  show((m - n:Nat):Int)=_
  omega
 | succ c=>
  have q':n - m=c + 1:=q
  show sN c _=_
  rw[sN_eq]
  congr 1
  rw[Int.negSucc_eq];omega
theorem addI_eq(a b:Int)(k:Int→R):addI a b k=k (a + b):=by
 cases a with
 | ofNat m=>cases b with
  | ofNat n=>exact sN_eq (m + n) fun c=>k (Int.ofNat c)
  | negSucc n=>refine(dN_eq _ _ _).trans (congrArg k ?_);simp only[Int.ofNat_eq_natCast,Int.negSucc_eq];omega
 | negSucc m=>cases b with
  | ofNat n=>refine(dN_eq _ _ _).trans (congrArg k ?_);simp only[Int.ofNat_eq_natCast,Int.negSucc_eq];omega
  | negSucc n=>refine(sN_eq (m + n).succ fun c=>k (Int.negSucc c)).trans (congrArg k ?_);show Int.negSucc (m + n).succ=_;simp only[Int.negSucc_eq];omega
theorem subI_eq(a b:Int)(k:Int→R):subI a b k=k (a - b):=by
 cases a with
 | ofNat m=>cases b with
  | ofNat n=>exact dN_eq _ _ _
  | negSucc n=>refine(sN_eq (m + n).succ fun c=>k (Int.ofNat c)).trans (congrArg k ?_);show((m + n).succ:Int)=_;simp only[Int.ofNat_eq_natCast,Int.negSucc_eq];omega
 | negSucc m=>cases b with
  | ofNat n=>refine(sN_eq (m + n) fun c=>k (Int.negSucc c)).trans (congrArg k ?_);show Int.negSucc (m + n)=_;simp only[Int.ofNat_eq_natCast,Int.negSucc_eq];omega
  | negSucc n=>refine(dN_eq _ _ _).trans (congrArg k ?_);simp only[Int.negSucc_eq];omega
theorem ngN_eq(n:Nat)(k:Int→R):ngN n k=k (Int.negOfNat n):=by cases n with | zero=>rfl | succ n=>exact sN_eq n fun m=>k (Int.negSucc m)
theorem mulI_eq(a b:Int)(k:Int→R):mulI a b k=k (a * b):=by
 cases a with
 | ofNat m=>cases b with
  | ofNat n=>exact sN_eq (m * n) fun c=>k (Int.ofNat c)
  | negSucc n=>exact ngN_eq (m * n.succ) k
 | negSucc m=>cases b with
  | ofNat n=>exact ngN_eq (m.succ * n) k
  | negSucc n=>exact sN_eq (m.succ * n.succ) fun c=>k (Int.ofNat c)
theorem vInt_some{x:V}{k:Int→R}(h:vInt x k=some z):∃ i,x=.int i∧k i=some z:=by cases x <;> first | exact⟨_,rfl,h⟩ | cases h
theorem vList_some{x:V}{k:List V→R}(h:vList x k=some z):∃ i,x=.list i∧k i=some z:=by cases x <;> first | exact⟨_,rfl,h⟩ | cases h
theorem vTup_some{x:V}{k:List V→R}(h:vTup x k=some z):∃ i,x=.tuple i∧k i=some z:=by cases x <;> first | exact⟨_,rfl,h⟩ | cases h
theorem vDict_some{x:V}{k:List (V × V)→R}(h:vDict x k=some z):∃ i,x=.dict i∧k i=some z:=by cases x <;> first | exact⟨_,rfl,h⟩ | cases h
theorem vSeq_some{x:V}{k:List V→R}(h:vSeq x k=some z):∃ i,itemsOf x=some i∧k i=some z:=by cases x <;> first | exact⟨_,rfl,h⟩ | cases h
theorem vTrue_some{x:V}{a b:R}(h:vTrue x a b=some z):∃ t,truthy x=some t∧(if t then a else b)=some z:=by
 cases x with
 | bool t=>exact⟨t,rfl,ifB_if.symm.trans h⟩
 | _=>cases h
theorem appK_eq{α:Type}(xs ys:List α)(k:List α→R):appK xs ys k=k (xs++ys):=by
 induction xs generalizing k with
 | nil=>rfl
 | cons x xs ih=>exact ih _
theorem getK_some{α:Type}{n:Nat}{l:List α}{k:α→R}(h:getK n l k=some z):∃ x,l[n]?=some x∧k x=some z:=by
 induction n generalizing l with
 | zero=>cases l with | nil=>cases h | cons x t=>exact⟨x,rfl,h⟩
 | succ n ih=>cases l with | nil=>cases h | cons x t=>exact ih h
theorem setK_eq{α:Type}(n:Nat)(a:α)(l:List α)(k:List α→R):setK n a l k=k (l.set n a):=by
 induction n generalizing l k with
 | zero=>cases l <;> rfl
 | succ n ih=>cases l with | nil=>rfl | cons x t=>exact ih t _
theorem dropK_eq{α:Type}(n:Nat)(l:List α)(k:List α→R):dropK n l k=k (l.drop n):=by
 induction n generalizing l with
 | zero=>rfl
 | succ n ih=>cases l with | nil=>rfl | cons x t=>exact ih t
theorem takeK_eq{α:Type}(n:Nat)(l:List α)(k:List α→R):takeK n l k=k (l.take n):=by
 induction n generalizing l k with
 | zero=>rfl
 | succ n ih=>cases l with | nil=>rfl | cons x t=>exact ih t _
theorem lenK_eq{α:Type}(l:List α):lenK l=l.length:=by
 induction l with
 | nil=>rfl
 | cons x t ih=>show Nat.add (lenK t) 1=_;rw[ih];rfl
theorem revK_eq{α:Type}(l:List α)(k:List α→R):revK l k=k l.reverse:=by
 have:∀ (l acc:List α),@List.rec α (fun _=>List α→R) k (fun x _ ih acc=>ih (x::acc)) l acc=k (l.reverse++acc):=by
  intro l
  induction l with
  | nil=>intro acc;rfl
  | cons x t ih=>intro acc;rw[List.reverse_cons,List.append_assoc];exact ih (x::acc)
 have h:=this l []
 rw[List.append_nil]at h
 exact h
theorem okL_some{α:Type}{l:List α}{r:R}(h:okL l r=some z):l.length≤1000000∧r=some z:=by
 obtain⟨a,b⟩:=ifB_then h
 rw[lenK_eq]at a
 exact⟨Nat.le_of_ble_eq_true a,b⟩
theorem okS_some{α:Type}{l:List α}{r:R}(h:okS l r=some z):l.length≤1000∧r=some z:=by
 obtain⟨a,b⟩:=ifB_then h
 rw[lenK_eq]at a
 exact⟨Nat.le_of_ble_eq_true a,b⟩
theorem okL2_some{α:Type}{l m:List α}{r:R}(h:okL2 l m r=some z):l.length + m.length≤1000000∧r=some z:=by
 obtain⟨a,b⟩:=ifB_then h
 rw[lenK_eq,lenK_eq]at a
 exact⟨Nat.le_of_ble_eq_true a,b⟩
theorem okI_some{i:Int}{r:R}(h:okI i r=some z):okInt i=true∧r=some z:=by
 cases i <;> exact ifB_then h
theorem one_some{xs:List V}{k:V→R}(h:one xs k=some z):∃ x,xs=[x]∧k x=some z:=by
 cases xs with
 | nil=>cases h
 | cons x t=>cases t with
  | nil=>exact⟨x,rfl,h⟩
  | cons _ _=>cases h
theorem two_some{xs:List V}{k:V→V→R}(h:two xs k=some z):∃ x y,xs=[x,y]∧k x y=some z:=by
 cases xs with
 | nil=>cases h
 | cons x t=>obtain⟨y,rfl,h⟩:=one_some (k:=k x) h;exact⟨x,y,rfl,h⟩
theorem three_some{xs:List V}{k:V→V→V→R}(h:three xs k=some z):∃ x y c,xs=[x,y,c]∧k x y c=some z:=by
 cases xs with
 | nil=>cases h
 | cons x t=>obtain⟨y,c,rfl,h⟩:=two_some (k:=k x) h;exact⟨x,y,c,rfl,h⟩
theorem intK_eq(i:Int)(k:V→R):intK i k=k (.int i):=sI_eq i fun i=>k (.int i)
theorem repK_eq(n:Nat)(x:V)(k:List V→R):repK n x k=k (List.replicate n x):=by
 induction n generalizing k with
 | zero=>rfl
 | succ n ih=>exact ih _
theorem repL_some{b:Int}{x:V}{k:List V→R}(h:repL b x k=some z):b.natAbs≤1000000∧k (List.replicate b.toNat x)=some z:=by
 cases b with
 | ofNat n=>
  obtain⟨a,b⟩:=ifB_then h
  exact⟨Nat.le_of_ble_eq_true a,(repK_eq _ _ _).symm.trans b⟩
 | negSucc n=>
  obtain⟨a,b⟩:=ifB_then h
  exact⟨Nat.le_of_ble_eq_true a,b⟩
theorem nz_some{b:Int}{r:R}(h:nz b r=some z):b≠0∧r=some z:=by
 cases b with
 | ofNat n=>cases n with
  | zero=>cases h
  | succ n=>exact⟨nofun,h⟩
 | negSucc n=>exact⟨nofun,h⟩
theorem vInt2{x y:V}{k:Int→Int→R}(h:(vInt x fun a=>vInt y fun b=>k a b)=some z):∃ a b:Int,x=.int a∧y=.int b∧k a b=some z:=by
 obtain⟨a,rfl,h1⟩:=vInt_some h
 obtain⟨b,rfl,h2⟩:=vInt_some h1
 exact⟨a,b,rfl,rfl,h2⟩
theorem dm_some{a b:Int}{k:V→R}{c:Int}(h:nz b (okI a (okI b (intK c k)))=some z):b≠0∧okInt a=true∧k (.int c)=some z:=by
 obtain⟨h0,h1⟩:=nz_some h
 obtain⟨h2,h3⟩:=okI_some h1
 exact⟨h0,h2,(intK_eq c k).symm.trans (okI_some h3).2⟩
theorem binK_some{op:Operator}{x y:V}{k:V→R}(h:binK op x y k=some z):∃ r,BinR op x y r∧k r=some z:=by
 cases op with
 | Add=>
  cases x with
  | int a=>
   obtain⟨b,rfl,h1⟩:=vInt_some (k:=fun b=>addI a b fun c=>okI c (k (.int c))) h
   exact⟨_,.addI,(okI_some ((addI_eq a b fun c=>okI c (k (.int c))).symm.trans h1)).2⟩
  | list a=>
   obtain⟨b,rfl,h1⟩:=vList_some (k:=fun b=>okL2 a b (appK a b fun r=>k (.list r))) h
   have h:=okL2_some h1
   exact⟨_,.addL h.1,(appK_eq a b fun r=>k (.list r)).symm.trans h.2⟩
  | tuple a=>
   obtain⟨b,rfl,h1⟩:=vTup_some (k:=fun b=>okL2 a b (appK a b fun r=>k (.tuple r))) h
   have h:=okL2_some h1
   exact⟨_,.addT h.1,(appK_eq a b fun r=>k (.tuple r)).symm.trans h.2⟩
  | _=>cases h
 | Sub=>
  obtain⟨a,b,rfl,rfl,h1⟩:=vInt2 (k:=fun a b=>subI a b fun c=>okI c (k (.int c))) h
  exact⟨_,.sub,(okI_some ((subI_eq a b fun c=>okI c (k (.int c))).symm.trans h1)).2⟩
 | Mult=>
  cases x with
  | int a=>
   obtain⟨b,rfl,h1⟩:=vInt_some (k:=fun b=>okI a (okI b (mulI a b fun c=>okI c (k (.int c))))) h
   have h:=okI_some h1
   have h':=okI_some h.2
   exact⟨_,.mul h.1 h'.1,(okI_some ((mulI_eq a b fun c=>okI c (k (.int c))).symm.trans h'.2)).2⟩
  | list a=>
   obtain⟨b,rfl,h1⟩:=vInt_some (k:=fun b=>one a fun v=>repL b v fun r=>k (.list r)) h
   obtain⟨v,rfl,h2⟩:=one_some h1
   have h:=repL_some h2
   exact⟨_,.rep h.1,h.2⟩
  | _=>cases h
 | Mod=>
  obtain⟨a,b,rfl,rfl,h1⟩:=vInt2 (k:=fun a b=>nz b (okI a (okI b (intK (Int.fmod a b) k)))) h
  have h:=dm_some h1
  exact⟨_,.mod h.1,h.2.2⟩
 | FloorDiv=>
  obtain⟨a,b,rfl,rfl,h1⟩:=vInt2 (k:=fun a b=>nz b (okI a (okI b (intK (Int.fdiv a b) k)))) h
  have h:=dm_some h1
  exact⟨_,.div h.1 h.2.1,h.2.2⟩
 | Pow=>
  obtain⟨a,b,rfl,rfl,h1⟩:=vInt2 (k:=fun a b=>@Int.rec (fun _=>R) (fun n=>ifB (Nat.ble n (nat_lit 100)) (okI a (sI (Int.pow a n) fun c=>okI c (k (.int c)))) none) (fun _=>none) b) h
  cases b with
  | negSucc n=>cases h1
  | ofNat n=>
   have h:=ifB_then h1
   have h':=okI_some h.2
   exact⟨_,.pow (Nat.le_of_ble_eq_true h.1) h'.1,(okI_some ((sI_eq (Int.pow a n) fun c=>okI c (k (.int c))).symm.trans h'.2)).2⟩
 | _=>cases h
theorem nbeq(x y:Nat):Nat.beq x y=(x==y):=by rw[Bool.eq_iff_iff,Nat.beq_eq,beq_iff_eq]
theorem eqNL_eq(xs:List Nat):∀ (ys:List Nat),eqNL xs ys=(xs==ys):=by
 induction xs with
 | nil=>intro ys;cases ys <;> rfl
 | cons x xs ih=>
  intro ys
  cases ys with
  | nil=>rfl
  | cons y ys=>
   show @Bool.rec (fun _=>Bool) false (eqNL xs ys) (Nat.beq x y)=(x==y&&xs==ys)
   rw[ih,nbeq]
   cases x==y <;> rfl
theorem eqS_eq(x y:Str):eqS x y=(x==y):=by
 rw[eqS,eqNL_eq,Bool.eq_iff_iff,beq_iff_eq,beq_iff_eq]
 obtain⟨⟨x⟩⟩:=x
 obtain⟨⟨y⟩⟩:=y
 exact⟨fun h=>congrArg (fun l=>(⟨⟨l⟩⟩:Str)) h,fun h=>congrArg (fun s:Str=>s.cps.toList) h⟩
theorem eqI_eq(a b:Int):eqI a b=(a==b):=by
 cases a with
 | ofNat m=>cases b with
  | ofNat n=>
   show Nat.beq m n=_
   by_cases h:m=n
   ·subst h;simp
   ·rw[nbeq,beq_eq_false_iff_ne.mpr h,beq_eq_false_iff_ne.mpr (fun q=>h (Int.ofNat.inj q))]
  | negSucc n=>rfl
 | negSucc m=>cases b with
  | ofNat n=>rfl
  | negSucc n=>
   show Nat.beq m n=_
   by_cases h:m=n
   ·subst h;simp
   ·rw[nbeq,beq_eq_false_iff_ne.mpr h,beq_eq_false_iff_ne.mpr (fun q=>h (Int.negSucc.inj q))]
theorem ltI_eq(a b:Int):ltI a b=decide (a < b):=by
 cases a with
 | ofNat m=>cases b with
  | ofNat n=>
   show Nat.blt m n=_
   rw[Bool.eq_iff_iff,decide_eq_true_iff,Nat.blt_eq]
   exact Int.ofNat_lt.symm
  | negSucc n=>show false=_;symm;rw[decide_eq_false_iff_not];simp only[Int.ofNat_eq_natCast,Int.negSucc_eq];omega
 | negSucc m=>cases b with
  | ofNat n=>show true=_;symm;rw[decide_eq_true_iff];simp only[Int.ofNat_eq_natCast,Int.negSucc_eq];omega
  | negSucc n=>
   show Nat.blt n m=_
   rw[Bool.eq_iff_iff,decide_eq_true_iff,Nat.blt_eq]
   simp only[Int.negSucc_eq];omega
theorem eqV_some(x:V):∀ (y:V) (t:Bool),eqV x y=some t→PyData.eqv x y=t:=by
 refine @PyData.rec (fun x=>∀ (y:V) (t:Bool),eqV x y=some t→PyData.eqv x y=t)
  (fun xs=>∀ (a ys:List V) (t:Bool),(a=xs)→(eqV (.list xs) (.list ys)=some t→PyData.eqvAll xs ys=t))
  (fun _=>True) (fun _=>True) ?_ ?_ ?_ ?_ ?_ ?_ ?_ ?_ ?_ trivial (fun _ _ _ _=>trivial) (fun _ _ _ _=>trivial) x
 ·intro y t h;cases y <;> cases h <;> rfl
 ·intro a y t h
  cases y with
  | bool b=>cases h;cases a <;> cases b <;> rfl
  | _=>cases h <;> rfl
 ·intro a y t h
  cases y with
  | int b=>cases h;show(a==b)=eqI a b;rw[eqI_eq]
  | _=>cases h <;> rfl
 ·intro a y t h
  cases y with
  | str b=>cases h;show(a==b)=eqS a b;rw[eqS_eq]
  | _=>cases h <;> rfl
 ·intro xs ih y t h
  cases y with
  | list b=>exact ih xs b t rfl h
  | _=>cases h <;> rfl
 ·intro xs ih y t h
  cases y with
  | tuple b=>exact ih xs b t rfl h
  | _=>cases h <;> rfl
 ·intro kvs _ y t h;cases h
 ·intro a ys t _ h
  cases ys <;> cases h <;> rfl
 ·intro e r ihe ihr a ys t _ h
  cases ys with
  | nil=>cases h;rfl
  | cons y ys=>
   have h:@Option.rec Bool (fun _=>Option Bool) none (fun b=>@Bool.rec (fun _=>Option Bool) (some false) (eqV (.list r) (.list ys)) b) (eqV e y)=some t:=h
   cases q:eqV e y with
   | none=>rw[q]at h;cases h
   | some b=>
    rw[q]at h
    have q:=ihe y b q
    show(PyData.eqv e y&&PyData.eqvAll r ys)=t
    rw[q]
    cases b with
    | false=>cases h;rfl
    | true=>rw[ihr r ys t rfl h];rfl
theorem shK_ok(x:V):∀ n,shK x n=true→shapedD n x=true:=by
 refine @PyData.rec (fun x=>∀ n,shK x n=true→shapedD n x=true) (fun xs=>∀ n,shK (.list xs) (n + 1)=true→xs.all (shapedD n)=true)
  (fun _=>True) (fun _=>True) ?_ ?_ ?_ ?_ ?_ ?_ ?_ ?_ ?_ trivial (fun _ _ _ _=>trivial) (fun _ _ _ _=>trivial) x
 ·intro n _;cases n <;> rfl
 ·intro _ n _;cases n <;> rfl
 ·intro _ n _;cases n <;> rfl
 ·intro s n h;cases n <;> exact h
 ·intro xs ih n h
  cases n with
  | zero=>cases h
  | succ n=>exact ih n h
 ·intro xs ih n h
  cases n with
  | zero=>cases h
  | succ n=>exact ih n h
 ·intro _ _ n h;cases h
 ·intro n _;rfl
 ·intro e r ihe ihr n h
  have h:@Bool.rec (fun _=>Bool) false (shK (.list r) (n + 1)) (shK e n)=true:=h
  cases q:shK e n with
  | false=>rw[q]at h;cases h
  | true=>
   rw[q]at h
   rw[List.all_cons,ihe n q,ihr n h];rfl
theorem okIB_eq(i:Int):okIB i=okInt i:=by cases i <;> rfl
theorem keK_ok(x:V):∀ n,keK x n=true→keyD n x=true:=by
 refine @PyData.rec (fun x=>∀ n,keK x n=true→keyD n x=true) (fun xs=>∀ n,keK (.tuple xs) (n + 1)=true→xs.all (keyD n)=true)
  (fun _=>True) (fun _=>True) ?_ ?_ ?_ ?_ ?_ ?_ ?_ ?_ ?_ trivial (fun _ _ _ _=>trivial) (fun _ _ _ _=>trivial) x
 ·intro n h;cases h
 ·intro _ n h;cases h
 ·intro i n h
  cases n with
  | zero=>cases h
  | succ n=>show okInt i=true;rw[← okIB_eq];exact h
 ·intro s n h
  cases n with
  | zero=>cases h
  | succ n=>exact h
 ·intro xs ih n h;cases h
 ·intro xs ih n h
  cases n with
  | zero=>cases h
  | succ n=>exact ih n h
 ·intro _ _ n h;cases h
 ·intro n _;rfl
 ·intro e r ihe ihr n h
  have h:@Bool.rec (fun _=>Bool) false (keK (.tuple r) (n + 1)) (keK e n)=true:=h
  cases q:keK e n with
  | false=>rw[q]at h;cases h
  | true=>
   rw[q]at h
   rw[List.all_cons,ihe n q,ihr n h];rfl
theorem kiK_eq(x:V):kiK x=kindK x:=by cases x <;> rfl
theorem andO_some{b:Bool}{o:Option Bool}{t:Bool}(h:andO b o=some t):b=true∧o=some t:=by cases b with | true=>exact⟨rfl,h⟩ | false=>cases h
theorem eqC_some{x y:V}{t:Bool}(h:eqC x y=some t):shapedD 12 x=true∧shapedD 12 y=true∧PyData.eqv x y=t:=by
 have h:=andO_some h
 have h':=andO_some h.2
 exact⟨shK_ok _ _ h.1,shK_ok _ _ h'.1,eqV_some _ _ _ h'.2⟩
theorem eqY_some{x y:V}{t:Bool}(h:eqY x y=some t):Mine.eqK x y=some t:=by
 replace h:=andO_some h
 obtain⟨h1,h⟩:=h
 replace h:=andO_some h
 obtain⟨h2,h⟩:=h
 replace h:=andO_some h
 obtain⟨h3,h⟩:=h
 have h3:(kindK x==kindK y)=true:=by rw[← kiK_eq,← kiK_eq,← nbeq];exact h3
 rw[Mine.eqK,keK_ok _ _ h1,keK_ok _ _ h2,h3,eqV_some _ _ _ h];rfl
theorem bB_some{o:Option Bool}{t f:R}(h:bB o t f=some z):∃ b,o=some b∧(if b then t else f)=some z:=by
 cases o with
 | none=>cases h
 | some b=>exact⟨b,rfl,by rw[← ifB_if];exact h⟩
theorem shLs_ok{ys:List V}(h:shLs ys=true):ys.all (shapedD 12)=true:=by
 induction ys with
 | nil=>rfl
 | cons y ys ih=>
  have h:@Bool.rec (fun _=>Bool) false (shLs ys) (shK y 12)=true:=h
  cases q:shK y 12 with
  | false=>rw[q]at h;cases h
  | true=>
   rw[q]at h
   rw[List.all_cons,shK_ok _ _ q,ih h];rfl
theorem inK_some{x:V}{ys:List V}{t f:R}(h:inK x ys t f=some z):(if ys.any fun y=>PyData.eqv y x then t else f)=some z:=by
 induction ys with
 | nil=>exact h
 | cons y ys ih=>
  obtain⟨b,hb,h⟩:=bB_some (t:=t) (f:=inK x ys t f) h
  rw[List.any_cons,eqV_some _ _ _ hb]
  cases b with
  | true=>exact h
  | false=>exact ih h
theorem inC_some{x:V}{ys:List V}{t f:R}(h:inC x ys t f=some z):shapedD 12 x=true∧ys.all (shapedD 12)=true∧(if ys.any fun y=>PyData.eqv y x then t else f)=some z:=by
 have h:=ifB_then h
 have h':=ifB_then h.2
 exact⟨shK_ok _ _ h.1,shLs_ok h'.1,inK_some h'.2⟩
theorem findD_some{x:V}{ps:List (V × V)}{k:V→R}{e:R}(h:findD x ps k e=some z):∃ o,findK x ps=some o∧(match o with | some v=>k v | none=>e)=some z:=by
 induction ps with
 | nil=>
  replace h:=ifB_then (x:=e) h
  obtain⟨h1,h⟩:=h
  exact⟨none,by simp [findK,keK_ok _ _ h1],h⟩
 | cons p ps ih=>
  obtain⟨a,b⟩:=p
  replace h:=bB_some (t:=k b) (f:=findD x ps k e) h
  obtain⟨t,ht,h⟩:=h
  have ht:=eqY_some ht
  cases t with
  | true=>exact⟨some b,by simp only[findK,ht],h⟩
  | false=>
   replace h:=ih h
   obtain⟨o,ho,h⟩:=h
   exact⟨o,by simp only[findK,ht];exact ho,h⟩
theorem putD_some{x v:V}{ps:List (V × V)}{k:List (V × V)→R}(h:putD x v ps k=some z):∃ r,putK x v ps=some r∧k r=some z:=by
 induction ps generalizing k with
 | nil=>
  replace h:=ifB_then (x:=k [(x,v)]) h
  obtain⟨h1,h⟩:=h
  exact⟨_,by simp [putK,keK_ok _ _ h1],h⟩
 | cons p ps ih=>
  obtain⟨a,b⟩:=p
  replace h:=bB_some (t:=k ((a,v)::ps)) (f:=putD x v ps fun r=>k ((a,b)::r)) h
  obtain⟨t,ht,h⟩:=h
  have ht:=eqY_some ht
  cases t with
  | true=>exact⟨_,by simp only[putK,ht],h⟩
  | false=>
   replace h:=ih h
   obtain⟨o,ho,h⟩:=h
   exact⟨_,by simp only[putK,ht,ho];rfl,h⟩
theorem delD_some{x:V}{ps:List (V × V)}{k:List (V × V)→R}(h:delD x ps k=some z):∃ r,delK x ps=some r∧k r=some z:=by
 induction ps generalizing k with
 | nil=>exact⟨_,rfl,h⟩
 | cons p ps ih=>
  obtain⟨a,b⟩:=p
  replace h:=bB_some (t:=k ps) (f:=delD x ps fun r=>k ((a,b)::r)) h
  obtain⟨t,ht,h⟩:=h
  have ht:=eqY_some ht
  cases t with
  | true=>exact⟨_,by simp only[delK,ht],h⟩
  | false=>
   replace h:=ih h
   obtain⟨o,ho,h⟩:=h
   exact⟨_,by simp only[delK,ht,ho];rfl,h⟩
theorem isN_some{y:V}{t f:R}(h:isN y t f=some z):(y=.none∧t=some z)∨(y ≠ .none∧f=some z):=by
 cases y with
 | none=>exact .inl ⟨rfl,h⟩
 | _=>exact .inr ⟨(fun q=>nomatch q),h⟩
theorem ltK_some{x y:V}{t f:R}(h:ltK x y t f=some z):∃ a b:Int,x=.int a∧y=.int b∧(if decide (a < b) then t else f)=some z:=by
 obtain⟨a,b,rfl,rfl,h'⟩:=vInt2 h
 exact⟨a,b,rfl,rfl,(ltI_eq a b)▸ifB_if.symm.trans h'⟩
theorem not_lt_dec(a b:Int):decide (b≤a)=!decide (a < b):=by
 by_cases q:a < b
 ·rw[decide_eq_true q,decide_eq_false (Int.not_le.mpr q)];rfl
 ·rw[decide_eq_false q,decide_eq_true (Int.not_lt.mp q)];rfl
theorem swap_if{b:Bool}{t f:R}(h:(if b then f else t)=some z):(if !b then t else f)=some z:=by cases b <;> exact h
theorem isK_some{x y:V}{t f:R}(h:isK x y t f=some z):y=.none∧(x=.none∧t=some z∨x ≠ .none∧f=some z):=by
 rcases isN_some h with ⟨e,h⟩ | ⟨_,h⟩
 ·exact⟨e,isN_some h⟩
 ·cases h
theorem cmpK_some{op:CmpOp}{x y:V}{t f:R}(h:cmpK op x y t f=some z):∃ b,CmpR op x y b∧(if b then t else f)=some z:=by
 cases op with
 | Eq=>
  obtain⟨b,hb,h⟩:=bB_some (t:=t) (f:=f) h
  have e:=eqC_some hb
  rw[← e.2.2]at h
  exact⟨_,.eq e.1 e.2.1,h⟩
 | NotEq=>
  obtain⟨b,hb,h⟩:=bB_some (t:=f) (f:=t) h
  have e:=eqC_some hb
  rw[← e.2.2]at h
  exact⟨_,.ne e.1 e.2.1,swap_if h⟩
 | Lt=>obtain⟨a,b,rfl,rfl,h1⟩:=ltK_some (x:=x) (y:=y) h;exact⟨_,.lt,h1⟩
 | LtE=>obtain⟨a,b,rfl,rfl,h1⟩:=ltK_some (x:=y) (y:=x) h;exact⟨_,.le,(not_lt_dec a b)▸swap_if h1⟩
 | Gt=>obtain⟨a,b,rfl,rfl,h1⟩:=ltK_some (x:=y) (y:=x) h;exact⟨_,.gt,h1⟩
 | GtE=>obtain⟨a,b,rfl,rfl,h1⟩:=ltK_some (x:=x) (y:=y) h;exact⟨_,.ge,(not_lt_dec a b)▸swap_if h1⟩
 | Is=>
  obtain⟨rfl,h1⟩:=isK_some (x:=x) (y:=y) h
  rcases h1 with ⟨rfl,h⟩ | ⟨n,h⟩
  ·exact⟨_,.is1,h⟩
  ·exact⟨_,.is0 n,h⟩
 | IsNot=>
  obtain⟨rfl,h1⟩:=isK_some (x:=x) (y:=y) h
  rcases h1 with ⟨rfl,h⟩ | ⟨n,h⟩
  ·exact⟨_,.not1,h⟩
  ·exact⟨_,.not0 n,h⟩
 | In=>
  cases y with
  | list l=>have h:=inC_some h;exact⟨_,.inL h.1 h.2.1,h.2.2⟩
  | tuple l=>have h:=inC_some h;exact⟨_,.inT h.1 h.2.1,h.2.2⟩
  | dict ps=>
   obtain⟨o,ho,h⟩:=findD_some (k:=fun _=>t) (e:=f) h
   refine⟨_,.inD ho,?_⟩
   cases o <;> exact h
  | _=>cases h
 | NotIn=>cases h
theorem absI_eq(a:Int):absI a=(a.natAbs:Int):=by cases a <;> rfl
theorem ifB_lt{a b:Int}{x y:R}(h:ifB (ltI a b) x y=some z):(if a < b then x else y)=some z:=by
 rw[ltI_eq]at h
 by_cases q:a < b
 ·rw[if_pos q];rw[decide_eq_true q]at h;exact h
 ·rw[if_neg q];rw[decide_eq_false q]at h;exact h
theorem maxL_some{l:List V}{a:Int}{k:V→R}(h:maxL l a k=some z):∃ r:List Int,l=r.map .int∧k (.int (r.foldl (fun a b=>if a < b then b else a) a))=some z:=by
 induction l generalizing a with
 | nil=>exact⟨[],rfl,h⟩
 | cons y l ih=>
  obtain⟨b,rfl,h1⟩:=vInt_some (x:=y) (k:=fun b=>ifB (ltI a b) (maxL l b k) (maxL l a k)) h
  have h2:=ifB_lt h1
  have key:maxL l (if a < b then b else a) k=some z:=by
   by_cases q:a < b
   ·rw[if_pos q]at h2 ⊢;exact h2
   ·rw[if_neg q]at h2 ⊢;exact h2
  obtain⟨r,hr,h3⟩:=ih key
  exact⟨b::r,by rw[hr];rfl,h3⟩
theorem insK_some{x:Int}{is:List Int}{k:List V→R}(h:insK x (is.map .int) k=some z):k ((insInt x is).map .int)=some z:=by
 induction is generalizing k with
 | nil=>exact h
 | cons y is ih=>
  have h:=ifB_lt (x:=k (.int x :: .int y::is.map .int)) (y:=insK x (is.map .int) fun r=>k (.int y::r)) h
  show k ((if x < y then x::y::is else y::insInt x is).map .int)=some z
  by_cases q:x < y
  ·rw[if_pos q]at h ⊢;exact h
  ·rw[if_neg q]at h ⊢;exact ih h
theorem sortK_some{ps:List (V × V)}{k:List V→R}(h:sortK ps k=some z):∃ is:List Int,keysOf ps=is.map .int∧k ((sortInts is).map .int)=some z:=by
 induction ps generalizing k with
 | nil=>exact⟨[],rfl,h⟩
 | cons p ps ih=>
  obtain⟨x,v⟩:=p
  obtain⟨a,rfl,h1⟩:=vInt_some (x:=x) (k:=fun a=>sortK ps fun r=>insK a r k) h
  obtain⟨is,hi,h2⟩:=ih h1
  exact⟨a::is,congrArg (PyData.int a :: ·) hi,insK_some h2⟩
theorem sortD_some{ps:List (V × V)}{k:List V→R}(h:sortD ps k=some z):∃ l,BiR .sorted [.dict ps] (.list l)∧k l=some z:=by
 have h0:=ifB_then h
 have h1:ps.length < 64:=Nat.blt_eq.mp (lenK_eq ps▸h0.1)
 have fin:sortK ps k=some z→∃ l,BiR .sorted [.dict ps] (.list l)∧k l=some z:=fun q=>by
  obtain⟨is,hi,h2⟩:=sortK_some q
  exact⟨_,.sortI hi (by rw[← List.length_map (f:=PyData.int),← hi,keysOf,List.length_map];exact h1),h2⟩
 cases ps with
 | nil=>exact fin h0.2
 | cons p t=>
  obtain⟨x,v⟩:=p
  cases x with
  | int a=>exact fin h0.2
  | str s=>
   cases t with
   | nil=>exact⟨_,.sortS,h0.2⟩
   | cons _ _=>cases h0.2
  | _=>cases h0.2
theorem seqK{x:V}{k:List V→R}(h:(vSeq x fun l=>okL l (k l))=some z):∃ l:List V,l.length≤1000000∧(x=.list l∨x=.tuple l)∧k l=some z:=by
 cases x with
 | list l=>have h:=okL_some (l:=l) (r:=k l) h;exact⟨l,h.1,.inl rfl,h.2⟩
 | tuple l=>have h:=okL_some (l:=l) (r:=k l) h;exact⟨l,h.1,.inr rfl,h.2⟩
 | _=>cases h
theorem pick_if{p:Prop}[Decidable p]{a b:Int}{k:V→R}(h:(if p then k (.int b) else k (.int a))=some z):k (.int (if p then b else a))=some z:=by
 by_cases q:p
 ·rw[if_pos q]at h ⊢;exact h
 ·rw[if_neg q]at h ⊢;exact h
theorem biK_some{f:Bi}{xs:List V}{k:V→R}(h:biK f xs k=some z):∃ r,BiR f xs r∧k r=some z:=by
 cases f with
 | len=>
  obtain⟨x,rfl,h1⟩:=one_some h
  obtain⟨l,h2,h3,h4⟩:=seqK (k:=fun l=>sN (lenK l) fun n=>k (.int (Int.ofNat n))) h1
  have h5:k (.int (Int.ofNat l.length))=some z:=lenK_eq l▸(sN_eq (lenK l) fun n=>k (.int (Int.ofNat n))).symm.trans h4
  rcases h3 with rfl | rfl
  ·exact⟨_,.lenL h2,h5⟩
  ·exact⟨_,.lenT h2,h5⟩
 | abs=>
  obtain⟨x,rfl,h1⟩:=one_some h
  obtain⟨a,rfl,h2⟩:=vInt_some h1
  exact⟨_,.abs,absI_eq a▸(intK_eq _ _).symm.trans h2⟩
 | max=>
  obtain⟨x,y,rfl,h1⟩:=two_some h
  obtain⟨a,b,rfl,rfl,h2⟩:=vInt2 (k:=fun a b=>ifB (ltI a b) (k (.int b)) (k (.int a))) h1
  exact⟨_,.max,pick_if (ifB_lt h2)⟩
 | min=>
  obtain⟨x,y,rfl,h1⟩:=two_some h
  obtain⟨a,b,rfl,rfl,h2⟩:=vInt2 (k:=fun a b=>ifB (ltI b a) (k (.int b)) (k (.int a))) h1
  exact⟨_,.min,pick_if (ifB_lt h2)⟩
 | maxL=>
  obtain⟨x,rfl,h1⟩:=one_some h
  obtain⟨l,rfl,h2⟩:=vList_some h1
  cases l with
  | nil=>cases h2
  | cons y t=>
   obtain⟨a,rfl,h3⟩:=vInt_some (x:=y) (k:=fun a=>maxL t a k) h2
   obtain⟨r,rfl,h4⟩:=maxL_some h3
   exact⟨_,.maxL,h4⟩
 | list=>
  obtain⟨x,rfl,h1⟩:=one_some h
  obtain⟨l,h2,h3,h4⟩:=seqK (k:=fun l=>k (.list l)) h1
  rcases h3 with rfl | rfl
  ·exact⟨_,.listL h2,h4⟩
  ·exact⟨_,.listT h2,h4⟩
 | tuple=>
  obtain⟨x,rfl,h1⟩:=one_some h
  obtain⟨l,rfl,h2⟩:=vList_some h1
  have h3:=okL_some (r:=k (.tuple l)) h2
  exact⟨_,.tup h3.1,h3.2⟩
 | sorted=>
  obtain⟨x,rfl,h1⟩:=one_some h
  obtain⟨ps,rfl,h2⟩:=vDict_some h1
  obtain⟨l,hl,h3⟩:=sortD_some h2
  exact⟨_,hl,h3⟩
theorem seqIndex_up{n m:Nat}(h:n < m):seqIndex? (Int.ofNat n) m=some n:=by
 have e:(decide ((0:Int)≤Int.ofNat n)&&decide (Int.ofNat n < (m:Int)))=true:=by
  rw[decide_eq_true (p:=(0:Int)≤Int.ofNat n) (Int.natCast_nonneg n),decide_eq_true (p:=Int.ofNat n < (m:Int)) (Int.ofNat_lt.mpr h)];rfl
 exact if_pos e
theorem seqIndex_down{n m:Nat}(h:n < m):seqIndex? (Int.negSucc n) m=some (m - (n + 1)):=by
 have q:Int.negSucc n + m=((m - (n + 1):Nat):Int):=by rw[Int.negSucc_eq];omega
 have e:(decide ((0:Int)≤Int.negSucc n + m)&&decide (Int.negSucc n + m < (m:Int)))=true:=by
  rw[q,decide_eq_true (Int.natCast_nonneg _),decide_eq_true (by omega)];rfl
 unfold seqIndex?
 rw[if_pos (Int.negSucc_lt_zero n)]
 exact(if_pos e).trans (congrArg (fun i:Int=>some i.toNat) q)
theorem getAt_lt{l:List V}{n:Nat}{r:V}(h:l[n]?=some r):n < l.length:=(List.getElem?_eq_some_iff.mp h).1
theorem atK_some{l:List V}{i:Int}{k:V→R}(h:atK l i k=some z):∃ r,AtR l i r∧k r=some z:=by
 cases i with
 | ofNat n=>
  have h1:=ifB_then (x:=getK n l k) h
  obtain⟨r,hr,h2⟩:=getK_some h1.2
  exact⟨r,⟨Nat.blt_eq.mp h1.1,n,seqIndex_up (getAt_lt hr),hr⟩,h2⟩
 | negSucc n=>
  have h1:=ifB_then (x:=ifB (Nat.blt n (lenK l)) (getK (Nat.sub (lenK l) (Nat.succ n)) l k) none) h
  have h2:=ifB_then h1.2
  obtain⟨r,hr,h3⟩:=getK_some h2.2
  rw[lenK_eq]at hr
  exact⟨r,⟨Nat.blt_eq.mp h1.1,_,seqIndex_down (Nat.blt_eq.mp (lenK_eq l▸h2.1)),hr⟩,h3⟩
theorem getV_some{x y:V}{k:V→R}(h:getV' x y k=some z):∃ r,GetR x y r∧k r=some z:=by
 cases x with
 | list l=>
  obtain⟨i,rfl,h1⟩:=vInt_some (k:=fun i=>atK l i k) h
  obtain⟨r,hr,h2⟩:=atK_some h1
  exact⟨r,.list hr,h2⟩
 | tuple l=>
  obtain⟨i,rfl,h1⟩:=vInt_some (k:=fun i=>atK l i k) h
  obtain⟨r,hr,h2⟩:=atK_some h1
  exact⟨r,.tuple hr,h2⟩
 | dict ps=>
  obtain⟨o,ho,h1⟩:=findD_some (k:=k) (e:=none) h
  cases o with
  | none=>cases h1
  | some v=>exact⟨v,.dict ho,h1⟩
 | _=>cases h
theorem clK_eq(n:Nat)(i:Int):clK n i=clipAt n i:=by
 apply Int.ofNat.inj
 refine Eq.trans ?_ (clipAt_cast n i).symm
 cases i with
 | ofNat m=>
  rw[if_neg (c:=Int.ofNat m < 0) (Int.not_lt.mpr (Int.natCast_nonneg m))]
  show((@Bool.rec (fun _=>Nat) n m (Nat.ble m n):Nat):Int)=max 0 (min (m:Int) n)
  cases q:Nat.ble m n with
  | true=>have:=Nat.le_of_ble_eq_true q;show(m:Int)=_;omega
  | false=>
   have:¬ m≤n:=fun h=>by rw[Nat.ble_eq.mpr h]at q;cases q
   show(n:Int)=_;omega
 | negSucc m=>
  rw[if_pos (Int.negSucc_lt_zero m)]
  show((n - m.succ:Nat):Int)=_
  rw[Int.negSucc_eq];omega
theorem slK_some{x:V}{lo hi:Option V}{k:V→R}(h:slK x lo hi k=some z):∃ r,SliceR x lo hi r∧k r=some z:=by
 cases x with
 | list l=>
  have h0:=okL_some (r:=slL l lo hi fun r=>k (.list r)) h
  cases lo with
  | none=>
   cases hi with
   | none=>cases h0.2
   | some b=>
    obtain⟨b,rfl,h1⟩:=vInt_some (k:=fun b=>takeK (clK (lenK l) b) l fun r=>k (.list r)) h0.2
    rw[takeK_eq,clK_eq,lenK_eq]at h1
    exact⟨_,.pre h0.1,h1⟩
  | some a=>
   obtain⟨a,rfl,h1⟩:=vInt_some (x:=a) h0.2
   cases hi with
   | some _=>cases h1
   | none=>
    have h2:(dropK (clK (lenK l) a) l fun r=>k (.list r))=some z:=h1
    rw[dropK_eq,clK_eq,lenK_eq]at h2
    exact⟨_,.suf h0.1,h2⟩
 | tuple l=>
  have h0:=okL_some (r:=slT l lo hi fun r=>k (.tuple r)) h
  cases lo with
  | none=>cases h0.2
  | some a=>
   obtain⟨a,rfl,h1⟩:=vInt_some (x:=a) h0.2
   cases hi with
   | some _=>cases h1
   | none=>
    cases a with
    | negSucc n=>cases h1
    | ofNat n=>
     cases n with
     | zero=>cases h1
     | succ n=>
      have h2:=ifB_then (b:=Nat.ble (n + 1) (lenK l)) (x:=dropK (n + 1) l fun r=>k (.tuple r)) h1
      exact⟨_,.tup (Nat.succ_pos n) (Nat.le_of_ble_eq_true (lenK_eq l▸h2.1)) h0.1,(dropK_eq (n + 1) l fun r=>k (.tuple r)).symm.trans h2.2⟩
 | _=>cases h
theorem upK_eq(n:Nat)(a:Int)(k:List V→R):upK n a k=k (upRange a n):=by
 induction n generalizing a k with
 | zero=>rfl
 | succ n ih=>
  show addI a i1 (fun b=>upK n b fun r=>k (.int a::r))=_
  rw[addI_eq,ih];rfl
theorem downK_eq(n:Nat)(a:Int)(k:List V→R):downK n a k=k (downRange a n):=by
 induction n generalizing a k with
 | zero=>rfl
 | succ n ih=>
  show subI a i1 (fun b=>downK n b fun r=>k (.int a::r))=_
  rw[subI_eq,ih];rfl
theorem diK_eq(a b:Int)(k:Nat→R):diK a b k=k (a - b).toNat:=by
 unfold diK
 rw[subI_eq]
 cases a - b <;> rfl
theorem sm_some{a:Int}{r:R}(h:sm a r=some z):Nat.ble a.natAbs 100000=true∧r=some z:=by
 cases a with
 | ofNat n=>exact ifB_then h
 | negSucc n=>exact ifB_then h
theorem m1_some{a:Int}{r:R}(h:m1 a r=some z):a=-1∧r=some z:=by
 cases a with
 | ofNat n=>cases h
 | negSucc n=>cases n with
  | zero=>exact⟨rfl,h⟩
  | succ n=>cases h
theorem rows1_eq(l:List V)(k:List (List V)→R):rows1 l k=k (l.map fun x=>[x]):=by
 induction l generalizing k with
 | nil=>rfl
 | cons x l ih=>exact ih _
theorem rowsE_eq(l:List V)(i:Int)(k:List (List V)→R):rowsE l i k=k (enumFrom i l):=by
 induction l generalizing i k with
 | nil=>rfl
 | cons x l ih=>
  show addI i i1 (fun j=>rowsE l j fun r=>k ([.int i,x]::r))=_
  rw[addI_eq,ih];rfl
theorem rowsP_eq(l:List (V × V))(k:List (List V)→R):rowsP l k=k (l.map fun p=>[p.1,p.2]):=by
 induction l generalizing k with
 | nil=>rfl
 | cons x l ih=>exact ih _
theorem itemsK{x:V}{k:List V→R}(h:(vSeq x fun l=>okL l (k l))=some z):∃ l:List V,itemsOf x=some l∧l.length≤1000000∧k l=some z:=by
 obtain⟨l,h1,h2,h3⟩:=seqK h
 rcases h2 with rfl | rfl <;> exact⟨l,rfl,h1,h3⟩
theorem rows0{y:V}{k:List (List V)→R}(h:rowsK 0 [y] k=some z):∃ ds:List V,itemsOf y=some ds∧ds.length≤1000000∧k (ds.map fun x=>[x])=some z:=by
 obtain⟨l,h1,h2,h3⟩:=itemsK (k:=fun l=>rows1 l k) h
 exact⟨l,h1,h2,(rows1_eq l k).symm.trans h3⟩
theorem rowsB{y:V}{k:List (List V)→R}(h:rowsK 1 [y] k=some z):∃ b:Int,y=.int b∧b.natAbs≤100000∧k ((upRange 0 b.toNat).map fun x=>[x])=some z:=by
 obtain⟨b,rfl,h1⟩:=vInt_some (x:=y) (k:=fun b=>sm b (diK b (Int.ofNat Nat.zero) fun n=>upK n (Int.ofNat Nat.zero) fun l=>rows1 l k)) h
 have h2:=sm_some h1
 have h3:=h2.2
 rw[diK_eq,upK_eq,rows1_eq]at h3
 exact⟨b,rfl,Nat.le_of_ble_eq_true h2.1,Int.sub_zero b▸h3⟩
theorem rowsAB{x y:V}{k:List (List V)→R}(h:rowsK 2 [x,y] k=some z):∃ a b:Int,x=.int a∧y=.int b∧a.natAbs≤100000∧b.natAbs≤100000∧k ((upRange a (b - a).toNat).map fun x=>[x])=some z:=by
 obtain⟨a,b,rfl,rfl,h1⟩:=vInt2 (x:=x) (y:=y) (k:=fun a b=>sm a (sm b (diK b a fun n=>upK n a fun l=>rows1 l k))) h
 have h2:=sm_some h1
 have h3:=sm_some h2.2
 have h4:=h3.2
 rw[diK_eq,upK_eq,rows1_eq]at h4
 exact⟨a,b,rfl,rfl,Nat.le_of_ble_eq_true h2.1,Nat.le_of_ble_eq_true h3.1,h4⟩
theorem rowsABC{x y c:V}{k:List (List V)→R}(h:rowsK 3 [x,y,c] k=some z):∃ a b:Int,x=.int a∧y=.int b∧c=.int (-1)∧a.natAbs≤100000∧b.natAbs≤100000∧k ((downRange a (a - b).toNat).map fun x=>[x])=some z:=by
 obtain⟨a,b,rfl,rfl,h1⟩:=vInt2 (x:=x) (y:=y) (k:=fun a b=>vInt c fun c=>m1 c (sm a (sm b (diK a b fun n=>downK n a fun l=>rows1 l k)))) h
 obtain⟨c,rfl,h1⟩:=vInt_some h1
 obtain⟨rfl,h1⟩:=m1_some h1
 have h2:=sm_some h1
 have h3:=sm_some h2.2
 have h4:=h3.2
 rw[diK_eq,downK_eq,rows1_eq]at h4
 exact⟨a,b,rfl,rfl,rfl,Nat.le_of_ble_eq_true h2.1,Nat.le_of_ble_eq_true h3.1,h4⟩
theorem rowsRev{y:V}{k:List (List V)→R}(h:rowsK 5 [y] k=some z):∃ l:List V,y=.list l∧l.length≤1000000∧k (l.reverse.map fun x=>[x])=some z:=by
 obtain⟨l,rfl,h1⟩:=vList_some (x:=y) (k:=fun l=>okL l (revK l fun l=>rows1 l k)) h
 have h2:=okL_some h1
 have h3:=h2.2
 rw[revK_eq,rows1_eq]at h3
 exact⟨l,rfl,h2.1,h3⟩
theorem rowsEn{y:V}{k:List (List V)→R}(h:rowsK 4 [y] k=some z):∃ l:List V,y=.list l∧l.length≤1000000∧k (enumFrom 0 l)=some z:=by
 obtain⟨l,rfl,h1⟩:=vList_some (x:=y) (k:=fun l=>okL l (rowsE l (Int.ofNat Nat.zero) k)) h
 have h2:=okL_some h1
 exact⟨l,rfl,h2.1,(rowsE_eq l _ k).symm.trans h2.2⟩
theorem rowsD{y:V}{k:List (List V)→R}(h:rowsK 6 [y] k=some z):∃ l:List (V × V),y=.dict l∧l.length≤1000000∧k (l.map fun p=>[p.1,p.2])=some z:=by
 obtain⟨l,rfl,h1⟩:=vDict_some (x:=y) (k:=fun l=>okL l (rowsP l k)) h
 have h2:=okL_some h1
 exact⟨l,rfl,h2.1,(rowsP_eq l k).symm.trans h2.2⟩
theorem bindK_eq(ρ:Rho)(row:List V)(k:Rho→R):bindK ρ row k=k (ρ ++ row.map .va):=by
 induction ρ generalizing k with
 | nil=>
  show @List.rec V (fun _=>(Rho→R)→R) (fun k=>k []) (fun x _ ih k=>ih fun r=>k (.va x::r)) row k=_
  induction row generalizing k with
  | nil=>rfl
  | cons x t ih=>exact ih _
 | cons x t ih=>exact ih _
theorem eSl_some{s:Sl}{k:V→R}(h:eSl s k=some z):∃ d,s=.va d∧k d=some z:=by cases s <;> first | exact⟨_,rfl,h⟩ | cases h
theorem eSlO_some{s:Sl}{k:V→R}(h:eSlO s k=some z):∃ d,s=.ow d∧k d=some z:=by cases s <;> first | exact⟨_,rfl,h⟩ | cases h
theorem eSlB_some{s:Sl}{k:V→R}(h:eSlB s k=some z):∃ d,(s=.va d∨s=.ow d)∧k d=some z:=by
 cases s with
 | un=>cases h
 | va d=>exact⟨d,.inl rfl,h⟩
 | ow d=>exact⟨d,.inr rfl,h⟩
theorem oN_some{i:Nat}{ρ:Rho}{k:V→R}(h:oN i ρ k=some z):∃ d,ρ[i]?=some (.ow d)∧k d=some z:=by
 obtain⟨s,hs,h⟩:=getK_some h
 obtain⟨d,rfl,h⟩:=eSlO_some h
 exact⟨d,hs,h⟩
theorem cNf_some{i:Nat}{ρ:Rho}{k:V→R}(h:cN false i ρ k=some z):∃ d,ρ[i]?=some (.va d)∧k d=some z:=by
 obtain⟨s,hs,h⟩:=getK_some (k:=fun s=>eSl s k) h
 obtain⟨d,rfl,h⟩:=eSl_some h
 exact⟨d,hs,h⟩
theorem cNt_some{i:Nat}{ρ:Rho}{k:V→R}(h:cN true i ρ k=some z):∃ d,(ρ[i]?=some (.va d)∨ρ[i]?=some (.ow d))∧k d=some z:=by
 obtain⟨s,hs,h⟩:=getK_some (k:=fun s=>eSlB s k) h
 obtain⟨d,q,h⟩:=eSlB_some h
 refine⟨d,?_,h⟩
 rcases q with rfl | rfl
 ·exact .inl hs
 ·exact .inr hs
theorem ownK_eq(own:Bool)(d:V)(k:Sl→R):ownK own d k=k (if own&&isCont d then .ow d else .va d):=by
 cases own <;> cases d <;> rfl
end K
end Mine
end
noncomputable section
open PySem
namespace Mine
structure Cx where
 names:List (Str × NameKind)
 ls:List Str
 fns:List Str
 lits:List (Str × V)
 lends:List Str
 fresh:List Str
noncomputable def idxS(x:Str):Nat→List Str→Option Nat
 | _,[]=>none
 | i,y::ys=>match idxS x (i + 1) ys with
  | some j=>some j
  | none=>if x==y then some i else none
noncomputable def Cx.slot(c:Cx)(x:Str):Option Nat:=match c.names.lookup x with
 | some .local=>idxS x 0 c.ls
 | some .cell=>idxS x 0 c.ls
 | some .free=>idxS x 0 c.ls
 | _=>none
noncomputable def Cx.isGlob(c:Cx)(x:Str):Bool:=match c.names.lookup x with
 | some .globalImplicit=>true
 | _=>false
noncomputable def Cx.ofComp(c:Cx)(sc:Scope)(ts:List Str):Cx:={ c with names:=sc.names,ls:=c.ls++ts }
noncomputable def biOf(x:Str)(n:Nat):Option Bi:=
 if x==s_len&&n==1 then some .len
 else if x==s_abs&&n==1 then some .abs
 else if x==s_max&&n==2 then some .max
 else if x==s_max&&n==1 then some .maxL
 else if x==s_min&&n==2 then some .min
 else if x==s_list&&n==1 then some .list
 else if x==s_tuple&&n==1 then some .tuple
 else if x==s_sorted&&n==1 then some .sorted
 else none
noncomputable def noStar:Expr→Bool
 | .Starred _ _=>false
 | _=>true
noncomputable def nameOf:Expr→Option Str
 | .Name x _=>some x
 | _=>none
noncomputable def namesOf:List Expr→Option (List Str)
 | []=>some []
 | e::es=>match nameOf e with
  | some x=>(namesOf es).map (x :: ·)
  | none=>none
noncomputable def tgNames:Expr→Option (List Str)
 | .Name x _=>some [x]
 | .Tuple es _ _=>namesOf es
 | _=>none
noncomputable def isInt1:Expr→Bool
 | .Constant (.int 1) _ _=>true
 | _=>false
noncomputable def isM1:Expr→Bool
 | .UnaryOp .USub a _=>isInt1 a
 | _=>false
noncomputable def isRev:Expr→Bool
 | .Slice none none (some e) _=>isM1 e
 | _=>false
noncomputable def isSet:Expr→Bool
 | .Set ..=>true
 | _=>false
noncomputable def okT(loop:Bool)(k n:Nat):Expr→Bool
 | .Name ..=>Nat.ble k 3 || (loop&&k==5)
 | .Tuple ..=>(k==4 || k==6)&&n==2
 | _=>false
noncomputable def s_debug:Str:=⟨#[95,95,100,101,98,117,103,95,95]⟩
noncomputable def s_classdict:Str:=⟨#[95,95,99,108,97,115,115,100,105,99,116,95,95]⟩
noncomputable def s_dot0:Str:=⟨#[46,48]⟩
noncomputable def okName(c:Cx)(sc:Scope)(ts:List Str)(p:Str × NameKind):Bool:=!(p.1==s_debug) && !(p.1==s_classdict)&&(match p.2 with
 | .local=>(p.1==s_dot0 || ts.contains p.1)&&sc.names.lookup p.1==some .local
 | .cell=>ts.contains p.1&&sc.names.lookup p.1==some .cell
 | .free=>(c.names.lookup p.1==some .cell || c.names.lookup p.1==some .free) && !ts.contains p.1
 | .globalImplicit=>!ts.contains p.1
 | _=>false)
noncomputable def okScope(c:Cx)(sc:Scope)(ts:List Str):Bool:=sc.kind == .function&&sc.names.all (okName c sc ts)&&ts.all (fun x=>sc.names.lookup x==some .local || sc.names.lookup x==some .cell) && !ts.contains s_dot0 && !c.ls.contains s_dot0
noncomputable def nodupS:List Str→Bool
 | []=>true
 | x::xs=>!xs.contains x&&nodupS xs
noncomputable def allLocal(sc:Scope)(ts:List Str):Bool:=ts.all (fun x=>sc.names.lookup x==some .local)
noncomputable def isFresh:Nat→Cx→Expr→Bool
 | 0,_,_=>false
 | n + 1,c,e=>match e with
  | .List ..=>true
  | .ListComp ..=>true
  | .Dict ..=>true
  | .BinOp _ op _ _=>op == .Mult
  | .Call f _ kws _=>match nameOf f with
   | some f=>kws.isEmpty&&c.isGlob f&&(f==s_list || c.fresh.contains f)&&(c.fresh.contains f || (idxS f 0 c.fns).isNone)
   | none=>false
  | .IfExp _ a b _=>isFresh n c a&&isFresh n c b
  | _=>false
namespace K
noncomputable abbrev Orc:=Nat→List V→R
noncomputable abbrev Rec:=Cx→Bool→Expr→D
noncomputable def lD(ds:List D):DL:=ds.foldr cons nil
noncomputable def tD(ds:List D):TL:=ds.foldr tcons tnil
noncomputable def andL:List D→D
 | []=>cStuck
 | [d]=>d
 | d::ds=>cAnd2 d (andL ds)
noncomputable def orL:List D→D
 | []=>cStuck
 | [d]=>d
 | d::ds=>cOr2 d (orL ds)
noncomputable def constD:Const→D
 | .none=>cLit .none
 | .bool b=>cLit (.bool b)
 | .int i=>cLit (.int i)
 | .str s=>cLit (.str s)
 | _=>cStuck
noncomputable def nameD(c:Cx)(b:Bool)(x:Str):D:=match c.slot x with
 | some i=>cN b i
 | none=>if c.isGlob x then (match c.lits.lookup x with | some d=>cLit d | none=>cStuck) else cStuck
noncomputable def cmpD(r:Rec)(c:Cx)(a:Expr):List CmpOp→List Expr→D
 | [op],[b]=>if isSet b then cStuck else cCmp op (r c true a) (r c true b)
 | [o1,o2],[b,d]=>if isSet d then cStuck else cCmp2 o1 o2 (r c false a) (r c false b) (r c false d)
 | _,_=>cStuck
noncomputable def callN(O:Orc)(r:Rec)(c:Cx)(f:Str)(es:List Expr):D:=
 if c.isGlob f&&es.all noStar && !es.isEmpty then (match idxS f 0 c.fns with
  | some i=>cCall (O i) (lD (es.map (r c false)))
  | none=>match biOf f es.length with
   | some b=>cBi b (lD (es.map (r c true)))
   | none=>cStuck) else cStuck
noncomputable def callM(r:Rec)(c:Cx)(o:Expr)(m:Str)(ap p:Pos):List Expr→D
 | [k,d]=>match nameOf o with
  | some x=>if m==s_get&&ap.endLine==p.line&&noStar k&&noStar d then (match c.slot x with
   | some i=>cGet2 i (r c false k) (r c false d)
   | none=>cStuck) else cStuck
  | none=>cStuck
 | _=>cStuck
noncomputable def callD(O:Orc)(r:Rec)(c:Cx)(f:Expr)(es:List Expr)(p:Pos):D:=match f with
 | .Name f _=>callN O r c f es
 | .Attribute o m ap=>callM r c o m ap p es
 | _=>cStuck
noncomputable def subD(r:Rec)(c:Cx)(a s:Expr):D:=match s with
 | .Slice lo hi st _=>(match st with
  | none=>cSlice (r c true a) (lo.map (r c false)) (hi.map (r c false))
  | some _=>if isRev s then cRev (r c false a) else cStuck)
 | s=>cSub (r c true a) (r c false s)
noncomputable def rngD(r:Rec)(c:Cx):List Expr→Option (Nat × List D)
 | [a]=>if noStar a then some (1,[r c true a]) else none
 | [a,b]=>if noStar a&&noStar b then some (2,[r c true a,r c true b]) else none
 | [a,b,d]=>if noStar a&&noStar b&&noStar d then some (3,[r c true a,r c true b,r c true d]) else none
 | _=>none
noncomputable def oneD(r:Rec)(c:Cx)(bb:Bool)(k:Nat):List Expr→Option (Nat × List D)
 | [a]=>if noStar a then some (k,[r c bb a]) else none
 | _=>none
noncomputable def itD(r:Rec)(c:Cx)(bb:Bool)(e:Expr):Option (Nat × List D):=match e with
 | .Call f es kws p=>(match f with
  | .Name f _=>if kws.isEmpty&&c.isGlob f&&(idxS f 0 c.fns).isNone&&(f==s_range || f==s_enumerate || f==s_reversed) then
    (if f==s_range then rngD r c es else if f==s_enumerate then oneD r c bb 4 es else oneD r c bb 5 es)
   else some (0,[r c bb e])
  | .Attribute o m ap=>(match nameOf o with
   | some x=>if kws.isEmpty&&es.isEmpty&&m==s_items&&ap.endLine==p.line then (match c.slot x with
    | some i=>some (6,[cN bb i])
    | none=>none) else none
   | none=>none)
  | _=>some (0,[r c bb e]))
 | .Set ..=>none
 | e=>some (0,[r c bb e])
noncomputable def compD1(r:Rec)(c:Cx)(elt:Expr)(sc:Scope)(ts:List Str)(g:Comprehension):D:=
 if okScope c sc ts&&g.is_async==0&&nodupS ts then (match itD r c true g.iter with
  | some (k,xs)=>if okT false k ts.length g.target then cComp (r (c.ofComp sc ts) false elt) k (lD xs) (tD (g.ifs.map (r (c.ofComp sc ts) false))) else cStuck
  | none=>cStuck) else cStuck
noncomputable def compD(r:Rec)(c:Cx)(elt:Expr)(sc:Scope):List Comprehension→D
 | [g]=>(match tgNames g.target with
  | some ts=>compD1 r c elt sc ts g
  | none=>cStuck)
 | [g,h]=>(match nameOf g.target,nameOf h.target with
  | some x,some y=>if okScope c sc [x,y]&&g.is_async==0&&h.is_async==0&&g.ifs.isEmpty&&h.ifs.isEmpty&&allLocal sc [x,y] && !(x==y) && !isSet g.iter && !isSet h.iter then
    cComp2 (r (c.ofComp sc [x,y]) false elt) (r c false g.iter) (r (c.ofComp sc [x,y]) false h.iter) else cStuck
  | _,_=>cStuck)
 | _=>cStuck
noncomputable def dcompD(r:Rec)(c:Cx)(k v:Expr)(sc:Scope):List Comprehension→D
 | [g]=>(match nameOf g.target with
  | some x=>if okScope c sc [x]&&g.is_async==0&&allLocal sc [x] && !isSet g.iter then
    cDcomp (r (c.ofComp sc [x]) false k) (r (c.ofComp sc [x]) false v) (r c false g.iter) (tD (g.ifs.map (r (c.ofComp sc [x]) false))) else cStuck
  | none=>cStuck)
 | _=>cStuck
noncomputable def dictD:List (Option Expr)→List Expr→D
 | [],[]=>cD0
 | _,_=>cStuck
noncomputable def step(O:Orc)(r:Rec)(c:Cx)(b:Bool)(e:Expr):D:=match e with
 | .Constant k _ _=>constD k
 | .Name x _=>nameD c b x
 | .Tuple es _ _=>if es.all noStar&&Nat.ble es.length 1000 then cTup (lD (es.map (r c false))) else cStuck
 | .List es _=>if es.all noStar&&Nat.ble es.length 1000 then cList (lD (es.map (r c false))) else cStuck
 | .BinOp a op b' _=>cBin op (r c false a) (r c false b')
 | .UnaryOp op a _=>(match op with
  | .USub=>cNeg (r c false a)
  | .Not=>cNot (r c false a)
  | _=>cStuck)
 | .BoolOp op es _=>(match op with
  | .And=>andL (es.map (r c false))
  | .Or=>orL (es.map (r c false)))
 | .Compare a ops bs _=>cmpD r c a ops bs
 | .IfExp t a b' _=>cIte (r c false t) (r c false a) (r c false b')
 | .Call f es kws p=>if kws.isEmpty then callD O r c f es p else cStuck
 | .Subscript a s _=>subD r c a s
 | .ListComp elt gens sc _=>compD r c elt sc gens
 | .DictComp k v gens sc _=>dcompD r c k v sc gens
 | .Dict ks vs _=>dictD ks vs
 | _=>cStuck
noncomputable def cE(O:Orc):Nat→Rec
 | 0=>fun _ _ _=>cStuck
 | n + 1=>step O (cE O n)
end K
end Mine
end
noncomputable section
open PySem PySem.W PyProof.Rows
namespace Mine
section
set_option tactic.hygienic true
noncomputable def Kp(h h':Heap):Prop:=∀ b o,h.get? b=some o→h'.get? b=some o
theorem Kp.refl(h:Heap):Kp h h:=fun _ _ e=>e
theorem Kp.trans{a b c:Heap}(x:Kp a b)(y:Kp b c):Kp a c:=fun d o e=>y d o (x d o e)
section
variable(w:Pk)
mutual
noncomputable def hashD:V→Int
 | .int i=>hashInt i
 | .str x=>hashStr w.w x
 | .tuple xs=>reduceHash (Builtin.Tuple.tupleHashOf (hashL xs))
 | _=>0
noncomputable def hashL:List V→List Int
 | []=>[]
 | x::xs=>hashD x::hashL xs
end
end
mutual
noncomputable def drawsD:V→Nat
 | .tuple xs=>drawsL xs + 1
 | _=>1
noncomputable def drawsL:List V→Nat
 | []=>0
 | x::xs=>drawsD x + drawsL xs
end
variable{w:Pk}
theorem hash_reads:∀ (n:Nat) (d:V) {v:Value} {as:List Addr} {A:Around} {E:Value→Shared→Prop} {s:Shared} {Q:Int→Shared→Prop},
  keyD n d=true→Reads s.heap v d as→A.units + n < cLine→Q (hashD w d) { s with toks:=s.toks + drawsD d }→wpAny (model prog w.w) A (pyHash v) Q E s:=by
 intro n
 induction n with
 | zero=>intro d v as A E s Q h;cases h
 | succ n ih=>
  intro d v as A E s Q hk hr hu hQ
  cases d with
  | int i=>
   obtain⟨t,rfl,rfl⟩:=reads_int_inv hr
   exact wpAny_pyHash_int hQ
  | str x=>
   obtain⟨t,rfl,rfl⟩:=reads_str_inv hr
   exact wpAny_pyHash_str hQ
  | tuple xs=>
   cases hr with
   | @tuple a o vs m _ as ho hc hd hall=>
   have hT:s.TypeIs (.ref a) "tuple":=⟨o,ho,hc⟩
   have hk:xs.all (keyD n)=true:=hk
   unfold pyHash
   first | unfold pyHashByItsType | skip
   first | refine wpAny_bind (wpAny_cRoomFor_or (.inr (by omega)) ?_) | skip
   refine wpAny_bind (wpAny_specialOf hT F.slot_tuple_hash.lookup ?_)
   rw[if_neg (by simp)]
   refine wpAny_bind (wpAny_specialOf hT F.slot_tuple_hash.lookup ?_)
   simp only[Option.isNone_some,Bool.false_eq_true,if_false]
   refine wpAny_bind (wpAny_callSpecialIfBoundUnlessNone?_slot hT F.slot_tuple_hash (wpAny_call_entry F.slot_tuple_hash hT F.entry_tuple_hash ?_ (F.args_tuple_hash_1 _)))
   show wpAny _ _ (Builtin.Tuple.tupleItemsOf (.ref a) >>= _) _ _ s
   refine wpAny_bind (wpAny_tupleItemsOf ho hd ?_)
   refine wpAny_bind ?_
   rw[← Array.forIn_toList]
   refine wpAny_forIn_list _
    (fun rest (b:Array Int) s'=>∃ left bs hs tk,ReadsAll s.heap rest left bs∧left.all (keyD n)=true∧b.toList=hs∧s'={ s with toks:=tk }∧hs++hashL w left=hashL w xs∧tk + drawsL left=s.toks + drawsL xs)
    _ ?_ ?_ _ _ ⟨xs,as,[],s.toks,hall,hk,rfl,rfl,rfl,rfl⟩
   ·rintro x rest b s' ⟨left,bs,hs,tk,hl,hkl,hb,rfl,hh,ht⟩
    cases hl with
    | @cons _ _ d ds a1 b1 r1 r2=>
     simp only[List.all_cons,Bool.and_eq_true]at hkl
     refine wpAny_bind (ih d (s:={ s with toks:=tk }) hkl.1 r1 (by show A.units + 1 + n < cLine;omega) ?_)
     refine wpAny_pure ⟨ds,b1,_,tk + drawsD d,r2,hkl.2,rfl,rfl,?_,?_⟩
     ·rw[Array.toList_push,hb,List.append_assoc];exact hh
     ·rw[← ht];simp only[drawsL];omega
   ·rintro b s' ⟨left,bs,hs,tk,hl,_,hb,rfl,hh,ht⟩
    cases hl
    simp only[hashL,List.append_nil]at hh
    simp only[drawsL,Nat.add_zero]at ht
    show wpAny _ _ (retInt (Builtin.Tuple.tupleHashOf b.toList)) _ _ _
    rw[hb,hh]
    refine wpAny_ret_mkInt ?_
    subst ht
    show wpAny _ _ (if (decide (-(2:Int) ^ 63≤Builtin.Tuple.tupleHashOf (hashL w xs))&&decide (Builtin.Tuple.tupleHashOf (hashL w xs) < 2 ^ 63))=true then _ else _) Q E _
    simp only[hashD,drawsD,reduceHash]at hQ
    split
    ·rename_i hr
     rw[if_pos hr]at hQ
     exact wpAny_pure hQ
    ·rename_i hr
     rw[if_neg hr]at hQ
     exact wpAny_bind (wpAny_rule (wpAny_pure hQ))
  | _=>cases hk
theorem quiet_reads:∀ (n m:Nat) (d:V) {v:Value} {as:List Addr} {A:Around} {E:Value→Shared→Prop} {s:Shared} {Q:Bool→Shared→Prop},
  keyD n d=true→n≤m→Reads s.heap v d as→Q true s→wpAny (model prog w.w) A (eqIsQuiet m v) Q E s:=by
 intro n
 induction n with
 | zero=>intro m d v as A E s Q h;cases h
 | succ n ih=>
  intro m d v as A E s Q hk hm hr hQ
  obtain⟨m,rfl⟩:∃ k,m=k + 1:=⟨m - 1,by omega⟩
  cases d with
  | int i=>
   obtain⟨t,rfl,rfl⟩:=reads_int_inv hr
   exact wpAny_pure hQ
  | str x=>
   obtain⟨t,rfl,rfl⟩:=reads_str_inv hr
   exact wpAny_pure hQ
  | tuple xs=>
   cases hr with
   | @tuple a o vs k _ as ho hc hd hall=>
   have hT:s.TypeIs (.ref a) "tuple":=⟨o,ho,hc⟩
   have hk:xs.all (keyD n)=true:=hk
   unfold eqIsQuiet
   refine wpAny_bind (wpAny_specialOf hT F.slot_tuple_eq.lookup ?_)
   show wpAny _ _ (isInstance (.ref a) (.type "tuple") >>= _) _ _ s
   refine wpAny_bind (wpAny_isInstance hT isSubtype_tuple_tuple ?_)
   simp only[Bool.not_true,Bool.false_eq_true,if_false]
   refine wpAny_bind (wpAny_seqItems ho hd ?_)
   refine wpAny_bind ?_
   show wpAny _ _ (forIn vs _ _) _ _ s
   rw[← Array.forIn_toList]
   refine wpAny_forIn_list _
    (fun rest r s'=>s'=s∧r.1=none∧∃ left bs,ReadsAll s.heap rest left bs∧left.all (keyD n)=true)
    _ ?_ ?_ _ _ ⟨rfl,rfl,xs,as,hall,hk⟩
   ·rintro x rest r s' ⟨rfl,hr,left,bs,hl,hkl⟩
    cases hl with
    | @cons _ _ d ds a1 b1 r1 r2=>
     simp only[List.all_cons,Bool.and_eq_true]at hkl
     refine wpAny_bind (ih m d hkl.1 (by omega) r1 ?_)
     simp only[Bool.not_true,Bool.false_eq_true,if_false]
     exact wpAny_pure ⟨rfl,rfl,ds,b1,r2,hkl.2⟩
   ·rintro⟨r1,r2⟩ s' ⟨rfl,hr,_⟩
    simp only at hr
    subst hr
    exact wpAny_pure hQ
  | _=>cases hk
theorem lay_key:∀ (n:Nat) (d:V),keyD n d=true→d.canLay0=true∧d.depth≤n:=by
 intro n
 induction n with
 | zero=>intro d h;cases h
 | succ n ih=>
  have all:∀ xs:List V,xs.all (keyD n)=true→PyData.canLayAll0 xs=true∧PyData.depthAll xs≤n:=by
   intro xs
   induction xs with
   | nil=>intro _;simp [PyData.canLayAll0,PyData.depthAll]
   | cons x xs hi=>
    intro h
    simp only[List.all_cons,Bool.and_eq_true]at h
    have h1:=ih x h.1
    have h2:=hi h.2
    simp only[PyData.canLayAll0,PyData.depthAll,h1.1,h2.1,Bool.and_self,true_and]
    have:=h1.2;have:=h2.2;omega
  intro d h
  cases d with
  | int i=>exact⟨rfl,Nat.zero_le _⟩
  | str x=>exact⟨h,Nat.zero_le _⟩
  | tuple xs=>
   have q:=all xs h
   simp only[PyData.canLay0,PyData.depth,q.1,true_and]
   have:=q.2;omega
  | _=>cases h
theorem eqv_key:∀ (n:Nat) (d e:V),keyD n d=true→keyD n e=true→(PyData.eqv d e=true↔d=e):=by
 intro n
 induction n with
 | zero=>intro d e h;cases h
 | succ n ih=>
  have all:∀ xs ys:List V,xs.all (keyD n)=true→ys.all (keyD n)=true→(PyData.eqvAll xs ys=true↔xs=ys):=by
   intro xs
   induction xs with
   | nil=>intro ys _ _;cases ys <;> simp [PyData.eqvAll]
   | cons x xs hi=>
    intro ys h1 h2
    cases ys with
    | nil=>simp [PyData.eqvAll]
    | cons y ys=>
     simp only[List.all_cons,Bool.and_eq_true]at h1 h2
     simp only[PyData.eqvAll,Bool.and_eq_true,ih x y h1.1 h2.1,hi ys h1.2 h2.2,List.cons.injEq]
  intro d e h1 h2
  have no:∀ {p:Prop},¬ p→(false=true↔p):=fun q=>⟨fun h=>absurd h Bool.false_ne_true,fun h=>absurd h q⟩
  cases d with
  | int a=>
   cases e with
   | int b=>exact beq_iff_eq.trans ⟨congrArg _,PyData.int.inj⟩
   | str b=>exact no nofun
   | tuple b=>exact no nofun
   | _=>cases h2
  | str a=>
   cases e with
   | str b=>exact beq_iff_eq.trans ⟨congrArg _,PyData.str.inj⟩
   | int b=>exact no nofun
   | tuple b=>exact no nofun
   | _=>cases h2
  | tuple a=>
   cases e with
   | tuple b=>exact(all a b h1 h2).trans ⟨congrArg _,PyData.tuple.inj⟩
   | int b=>exact no nofun
   | str b=>exact no nofun
   | _=>cases h2
  | _=>cases h1
theorem reads_key_keeps{h h':Heap}{d:Addr}{od:Obj}{es ep}(ho:h.get? d=some od)(hd:od.data=.dict es ep)(hs:Heap.SameBut d h h'):
  ∀ (n:Nat) (k:V) {v:Value} {as:List Addr},keyD n k=true→Reads h v k as→Reads h' v k as:=by
 intro n
 induction n with
 | zero=>intro k v as h;cases h
 | succ n ih=>
  have all:∀ (xs:List V) {vs:List Value} {as:List Addr},xs.all (keyD n)=true→ReadsAll h vs xs as→ReadsAll h' vs xs as:=by
   intro xs
   induction xs with
   | nil=>intro vs as _ r;cases r;exact .nil
   | cons x xs hi=>
    intro vs as h r
    simp only[List.all_cons,Bool.and_eq_true]at h
    cases r with
    | cons r1 r2=>exact .cons (ih x h.1 r1) (hi h.2 r2)
  intro k v as hk r
  cases r with
  | tuple ho' hc' hd' r'=>
   refine .tuple ((hs.2 _ ?_).trans ho') hc' hd' (all _ hk r')
   rintro rfl
   rw[ho]at ho';cases ho'
   rw[hd]at hd';cases hd'
  | int=>exact .int _ _
  | str=>exact .str _ _
  | _=>cases hk
open scoped Classical
noncomputable abbrev tpl(vs:Array Value)(n:Nat):Obj:={ cls:=.type "tuple",data:=.seq vs n }
inductive All2{α β:Type}(R:α→β→Prop):List α→List β→Prop
 | nil:All2 R [] []
 | cons {a b as bs}:R a b→All2 R as bs→All2 R (a::as) (b::bs)
theorem All2.mono{α β:Type}{R S:α→β→Prop}(f:∀ a b,R a b→S a b){as:List α}{bs:List β}(x:All2 R as bs):All2 S as bs:=by
 induction x with
 | nil=>exact .nil
 | cons a _ ih=>exact .cons (f _ _ a) ih
noncomputable def exaN:Nat→Heap→Value→V→Prop
 | 0,_,_,_=>False
 | n + 1,h,v,d=>match d with
  | .int i=>∃ t,v=.int i t
  | .str x=>∃ t,v=.str x t
  | .tuple ds=>∃ (a:Addr) (vs:List Value) (m:Nat),v=.ref a∧h.get? a=some (tpl vs.toArray m)∧All2 (exaN n h) vs ds
  | _=>False
theorem exa_mono{h h':Heap}(k:∀ a vs m,h.get? a=some (tpl vs m)→h'.get? a=some (tpl vs m)):∀ (n:Nat) (v:Value) (d:V),exaN n h v d→exaN n h' v d
 | 0,_,_,x=>x
 | n + 1,v,d,x=>by
  cases d with
  | tuple ds=>exact let ⟨a,vs,m,e,g,al⟩:=x;⟨a,vs,m,e,k _ _ _ g,al.mono (exa_mono k n)⟩
  | int i=>exact x
  | str i=>exact x
  | _=>exact x
noncomputable def isTup:V→Bool
 | .tuple _=>true
 | _=>false
noncomputable def TKey(h:Heap)(k:V)(a:Addr):Prop:=keyD 7 k=true∧isTup k=true∧∃ as,Reads h (.ref a) k as∧exaN 7 h (.ref a) k
noncomputable def tupKind(w:Pk):HeapKind prog w.w V where
 is:=TKey
 hash:=hashD w
 draws:=drawsD
 room:=fun A=>A.units + 70 < cLine
 inj:=fun ⟨_,_,_,r,_⟩ ⟨_,_,_,r',_⟩=>(PySem.Reads.unique r _ _ r').1
 keeps:=by
  rintro h h' k a d o es ep ⟨h1,h2,as,r,x⟩ ho hd hs
  exact⟨h1,h2,as,reads_key_keeps ho hd hs 7 k h1 r,exa_mono (fun b vs m e=>(hs.2 _ (by rintro rfl;rw[ho]at e;cases e;cases hd)).trans e) 7 _ _ x⟩
 pyHash:=fun hu ⟨h1,_,_,r,_⟩ hQ=>hash_reads 7 _ h1 r (by omega) hQ
 eqBool:=by
  rintro A E s x y a b Q hu ⟨h1,_,as,r,_⟩ ⟨h1',_,bs,r',_⟩ hQ
  have l1:=lay_key 7 x h1
  have l2:=lay_key 7 y h1'
  refine PySem.SeqAt.eqBoolOverData prog w.w A E s _ _ x y as bs Q r r' l1.1 l2.1 (by have:=l1.2;omega) ?_
  have e:=eqv_key 7 x y h1 h1'
  have:PyData.eqv x y=decide (x=y):=by
   by_cases q:x=y
   ·rw[decide_eq_true q];exact e.mpr q
   ·rw[decide_eq_false q];exact Bool.eq_false_iff.mpr fun z=>q (e.mp z)
  rw[this];exact hQ
 quiet:=fun ⟨h1,_,_,r,_⟩ hQ=>quiet_reads 7 8 _ h1 (by omega) r hQ
end
section
noncomputable abbrev lst(vs:Array Value)(n:Nat):Obj:={ cls:=.type "list",data:=.seq vs n }
noncomputable abbrev dct(es:Array DictEntry)(n:Nat):Obj:={ cls:=.type "dict",data:=.dict es n }
section
variable(w:Pk)
open scoped Classical
inductive KeysOk(h:Heap):List DictEntry→List V→Prop
 | kI {es} {is:List Int}:All2 (fun (e:DictEntry) (i:Int)=>e.hash=hashInt i∧∃ t,e.key=.int i t) es is→is.Nodup→KeysOk h es (is.map .int)
 | kS {es} {xs:List Str}:All2 (fun (e:DictEntry) (x:Str)=>e.hash=hashStr w.w x∧∃ t,e.key=.str x t) es xs→xs.Nodup→KeysOk h es (xs.map .str)
 | kT {es} {ks:List V}:All2 (fun (e:DictEntry) (k:V)=>e.hash=hashD w k∧∃ b,e.key=.ref b∧TKey h k b) es ks→ks.Nodup→KeysOk h es ks
mutual
inductive Rd(h:Heap):Value→V→List Addr→Prop
 | none:Rd h .none .none []
 | bool (b):Rd h (.bool b) (.bool b) []
 | int (i t):Rd h (.int i t) (.int i) []
 | str (x t):Rd h (.str x t) (.str x) []
 | list{a:Addr}{vs:List Value}{n:Nat}{ds:List V}{as:List Addr}:h.get? a=some (lst vs.toArray n)→RdL h vs ds as→Rd h (.ref a) (.list ds) (a::as)
 | tuple{a:Addr}{vs:List Value}{n:Nat}{ds:List V}{as:List Addr}:h.get? a=some (tpl vs.toArray n)→RdL h vs ds as→Rd h (.ref a) (.tuple ds) as
 | dict{a:Addr}{es:List DictEntry}{n:Nat}{ks ds:List V}{as:List Addr}:h.get? a=some (dct es.toArray n)→KeysOk w h es ks→ks.length=ds.length→RdL h (es.map (·.val)) ds as→Rd h (.ref a) (.dict (ks.zip ds)) (a::as)
inductive RdL(h:Heap):List Value→List V→List Addr→Prop
 | nil:RdL h [] [] []
 | cons {v vs d ds as bs}:Rd h v d as→RdL h vs ds bs→RdL h (v::vs) (d::ds) (as++bs)
end
noncomputable def Rb(N:Addr→Prop)(b:Bool)(h:Heap)(v:Value)(d:V):Prop:=∃ as,Rd w h v d as∧∀ a∈as,N a→b=true∧v=.ref a
noncomputable def RbL(N:Addr→Prop)(b:Bool)(h:Heap):List Value→List V→Prop:=All2 (Rb w N b h)
end
variable{w:Pk}{h h':Heap}{N:Addr→Prop}
theorem TKey.keeps(k:Kp h h'){d:V}{a:Addr}(x:TKey h d a):TKey h' d a:=let ⟨a,b,as,r,e⟩:=x;⟨a,b,as,PyProof.Rows.Reads.keeps k r,exa_mono (fun _ _ _ q=>k _ _ q) 7 _ _ e⟩
theorem All2.length{α β:Type}{R:α→β→Prop}{as:List α}{bs:List β}(x:All2 R as bs):as.length=bs.length:=by
 induction x with
 | nil=>rfl
 | cons a _ ih=>simp [ih]
theorem KeysOk.keeps(k:Kp h h'){es ks}(x:KeysOk w h es ks):KeysOk w h' es ks:=by
 cases x with
 | kI a b=>exact .kI a b
 | kS a b=>exact .kS a b
 | kT a b=>exact .kT (a.mono fun e d ⟨x,b,y,z⟩=>⟨x,b,y,z.keeps k⟩) b
theorem rd_both{P:Value→V→List Addr→Prop}{PL:List Value→List V→List Addr→Prop}(h0:P .none .none [])(h1:∀ b,P (.bool b) (.bool b) [])(h2:∀ i t,P (.int i t) (.int i) [])(h3:∀ x t,P (.str x t) (.str x) [])
  (hl:∀ {a:Addr} {vs:List Value} {n:Nat} {ds:List V} {as:List Addr},h.get? a=some (lst vs.toArray n)→RdL w h vs ds as→PL vs ds as→P (.ref a) (.list ds) (a::as))
  (ht:∀ {a:Addr} {vs:List Value} {n:Nat} {ds:List V} {as:List Addr},h.get? a=some (tpl vs.toArray n)→RdL w h vs ds as→PL vs ds as→P (.ref a) (.tuple ds) as)
  (hd:∀ {a:Addr} {es:List DictEntry} {n:Nat} {ks ds:List V} {as:List Addr},h.get? a=some (dct es.toArray n)→KeysOk w h es ks→ks.length=ds.length→RdL w h (es.map (·.val)) ds as→PL (es.map (·.val)) ds as→P (.ref a) (.dict (ks.zip ds)) (a::as))
  (hn:PL [] [] []) (hc:∀ {v vs d ds as bs},Rd w h v d as→P v d as→RdL w h vs ds bs→PL vs ds bs→PL (v::vs) (d::ds) (as++bs)):
  (∀ {v d as},Rd w h v d as→P v d as)∧(∀ {vs ds as},RdL w h vs ds as→PL vs ds as):=
 ⟨fun x=>@Rd.rec w h (fun v d as _=>P v d as) (fun vs ds as _=>PL vs ds as) h0 h1 h2 h3 (fun e r q=>hl e r q) (fun e r q=>ht e r q) (fun e k l r q=>hd e k l r q) hn (fun a b p q=>hc a p b q) _ _ _ x,
  fun x=>@RdL.rec w h (fun v d as _=>P v d as) (fun vs ds as _=>PL vs ds as) h0 h1 h2 h3 (fun e r q=>hl e r q) (fun e r q=>ht e r q) (fun e k l r q=>hd e k l r q) hn (fun a b p q=>hc a p b q) _ _ _ x⟩
theorem rd_keeps(k:Kp h h'):(∀ {v d as},Rd w h v d as→Rd w h' v d as)∧(∀ {vs ds as},RdL w h vs ds as→RdL w h' vs ds as):=
 rd_both .none .bool .int .str (fun e _ r=>.list (k _ _ e) r) (fun e _ r=>.tuple (k _ _ e) r) (fun e x l _ r=>.dict (k _ _ e) (x.keeps k) l r) .nil fun _ a _ r=>.cons a r
theorem Rd.keeps(k:Kp h h'){v:Value}{d:V}{as:List Addr}(x:Rd w h v d as):Rd w h' v d as:=(rd_keeps k).1 x
theorem Rb.keeps{b:Bool}(k:Kp h h'){v:Value}{d:V}(x:Rb w N b h v d):Rb w N b h' v d:=let ⟨as,r,q⟩:=x;⟨as,r.keeps k,q⟩
theorem RbL.keeps{b:Bool}(k:Kp h h'){vs:List Value}{ds:List V}(x:RbL w N b h vs ds):RbL w N b h' vs ds:=x.mono fun _ _ y=>y.keeps k
theorem Rb.weak{v:Value}{d:V}(x:Rb w N false h v d)(b:Bool):Rb w N b h v d:=let ⟨as,r,q⟩:=x;⟨as,r,fun a m n=>nomatch (q a m n).1⟩
theorem Rb.less{N':Addr→Prop}{b:Bool}(i:∀ a,N' a→N a){v:Value}{d:V}(x:Rb w N b h v d):Rb w N' b h v d:=let ⟨as,r,q⟩:=x;⟨as,r,fun a m n=>q a m (i a n)⟩
theorem rdL_of{vs:List Value}{ds:List V}(x:RbL w N false h vs ds):∃ as,RdL w h vs ds as∧∀ a∈as,¬ N a:=by
 induction x with
 | nil=>exact⟨[],RdL.nil,List.forall_mem_nil _⟩
 | cons x _ ih=>
  obtain⟨as,r,q⟩:=x
  obtain⟨bs,r',q'⟩:=ih
  exact⟨as++bs,.cons r r',List.forall_mem_append.mpr ⟨fun a m n=>Bool.false_ne_true (q a m n).1,q'⟩⟩
theorem rbL_of{vs:List Value}{ds:List V}{as:List Addr}(r:RdL w h vs ds as)(q:∀ a∈as,¬ N a):RbL w N false h vs ds:=by
 induction vs generalizing ds as with
 | nil=>cases r;exact .nil
 | cons v vs ih=>
  cases r with
  | cons r x=>
   have q:=List.forall_mem_append.mp q
   exact .cons ⟨_,r,fun a m n=>(q.1 a m n).elim⟩ (ih x q.2)
theorem Rb.tup{a:Addr}{vs:List Value}{n:Nat}{ds:List V}(b:Bool)(e:h.get? a=some (tpl vs.toArray n))(x:RbL w N false h vs ds):Rb w N b h (.ref a) (.tuple ds):=by
 obtain⟨as,r,q⟩:=rdL_of x
 exact⟨as,.tuple e r,fun a m n=>(q a m n).elim⟩
theorem Rb.lst{a:Addr}{vs:List Value}{n:Nat}{ds:List V}(b:Bool)(ha:b=false→¬ N a)(e:h.get? a=some (lst vs.toArray n))(x:RbL w N false h vs ds):Rb w N b h (.ref a) (.list ds):=by
 obtain⟨as,r,q⟩:=rdL_of x
 refine⟨a::as,.list e r,fun c m n=>?_⟩
 rcases List.mem_cons.mp m with rfl | m
 ·cases b with
  | true=>exact⟨rfl,rfl⟩
  | false=>exact(ha rfl n).elim
 ·exact(q c m n).elim
theorem seq_inj{c c':Value}{vs vs':List Value}{n n':Nat}{a:Addr}(e:h.get? a=some { cls:=c,data:=.seq vs.toArray n })(e':h.get? a=some { cls:=c',data:=.seq vs'.toArray n' }):vs=vs':=by
 have q:=Obj.mk.inj (Option.some.inj (e.symm.trans e'))
 exact List.toArray_eq_toArray_eq.mp (Data.seq.inj q.2.2.1).1
theorem dct_inj{es es':List DictEntry}{n n':Nat}{a:Addr}(e:h.get? a=some (dct es.toArray n))(e':h.get? a=some (dct es'.toArray n')):es=es':=by
 have q:=Obj.mk.inj (Option.some.inj (e.symm.trans e'))
 exact List.toArray_eq_toArray_eq.mp (Data.dict.inj q.2.2.1).1
theorem cls_ne{T T':String}{d d':Data}{a:Addr}{p:Prop}(hT:T≠T')(e:h.get? a=some { cls:=.type T,data:=d })(e':h.get? a=some { cls:=.type T',data:=d' }):p:=
 absurd (Value.type.inj (Obj.mk.inj (Option.some.inj (e.symm.trans e'))).1) hT
theorem rd_uniq:(∀ {v d as},Rd w h v d as→∀ {d' as'},Rd w h v d' as'→as=as')∧(∀ {vs ds as},RdL w h vs ds as→∀ {ds' as'},RdL w h vs ds' as'→as=as'):=by
 refine rd_both (P:=fun v _ as=>∀ {d' as'},Rd w h v d' as'→as=as') (PL:=fun vs _ as=>∀ {ds' as'},RdL w h vs ds' as'→as=as') ?_ ?_ ?_ ?_ ?_ ?_ ?_ ?_ ?_
 ·intro _ _ r;cases r;rfl
 ·intro _ _ _ r;cases r;rfl
 ·intro _ _ _ _ r;cases r;rfl
 ·intro _ _ _ _ r;cases r;rfl
 ·intro a vs n ds as e _ ih d' as' r
  cases r with
  | list e' r'=>cases seq_inj e e';exact congrArg (a :: ·) (ih r')
  | tuple e' r'=>exact cls_ne (by decide) e e'
  | dict e'=>exact cls_ne (by decide) e e'
 ·intro a vs n ds as e _ ih d' as' r
  cases r with
  | list e' r'=>exact cls_ne (by decide) e e'
  | tuple e' r'=>cases seq_inj e e';exact ih r'
  | dict e'=>exact cls_ne (by decide) e e'
 ·intro a es n ks ds as e _ _ _ ih d' as' r
  cases r with
  | list e' r'=>exact cls_ne (by decide) e e'
  | tuple e' r'=>exact cls_ne (by decide) e e'
  | dict e' _ _ r'=>cases dct_inj e e';exact congrArg (a :: ·) (ih r')
 ·intro _ _ r;cases r;rfl
 ·intro v vs d ds as bs _ i1 _ i2 ds' as' r
  cases r with | cons a b=>rw[i1 a,i2 b]
theorem rd_live:(∀ {v d as},Rd w h v d as→∀ a∈as,∃ o,h.get? a=some o)∧(∀ {vs ds as},RdL w h vs ds as→∀ a∈as,∃ o,h.get? a=some o):=
 rd_both (P:=fun _ _ as=>∀ a∈as,∃ o,h.get? a=some o) (PL:=fun _ _ as=>∀ a∈as,∃ o,h.get? a=some o) nofun nofun nofun nofun (fun e _ r=>List.forall_mem_cons.mpr ⟨⟨_,e⟩,r⟩) (fun _ _ r=>r) (fun e _ _ _ r=>List.forall_mem_cons.mpr ⟨⟨_,e⟩,r⟩) nofun fun _ a _ b=>List.forall_mem_append.mpr ⟨a,b⟩
theorem Rd.live{v:Value}{d:V}{as:List Addr}(x:Rd w h v d as):∀ a∈as,∃ o,h.get? a=some o:=rd_live.1 x
noncomputable def Inn(w:Pk)(h:Heap)(n:Nat)(a:Addr):Prop:=∃ d' as',Rd w h (.ref a) d' as'∧as'.length≤n
theorem Inn.le{a:Addr}{n m:Nat}(l:n≤m)(x:Inn w h n a):Inn w h m a:=let ⟨d,as,r,q⟩:=x;⟨d,as,r,Nat.le_trans q l⟩
theorem rd_inner:(∀ {v d as},Rd w h v d as→∀ a∈as,Inn w h as.length a)∧(∀ {vs ds as},RdL w h vs ds as→∀ a∈as,Inn w h as.length a):=
 rd_both (P:=fun _ _ as=>∀ a∈as,Inn w h as.length a) (PL:=fun _ _ as=>∀ a∈as,Inn w h as.length a) nofun nofun nofun nofun (fun e r i=>List.forall_mem_cons.mpr ⟨⟨_,_,.list e r,Nat.le_refl _⟩,fun a m=>(i a m).le (Nat.le_succ _)⟩) (fun _ _ r=>r) (fun e k l r i=>List.forall_mem_cons.mpr ⟨⟨_,_,.dict e k l r,Nat.le_refl _⟩,fun a m=>(i a m).le (Nat.le_succ _)⟩) nofun
  fun _ a _ b=>List.forall_mem_append.mpr ⟨fun x m=>(a x m).le (List.length_append▸Nat.le_add_right _ _),fun x m=>(b x m).le (List.length_append▸Nat.le_add_left _ _)⟩
theorem not_own{vs:List Value}{ds:List V}{as:List Addr}{a:Addr}{d':V}(r:RdL w h vs ds as)(x:Rd w h (.ref a) d' (a::as)):a∉as:=fun m=>by
 obtain⟨d'',as',x',l⟩:=rd_inner.2 r a m
 rw[← rd_uniq.1 x x']at l
 exact Nat.not_succ_le_self _ l
theorem rd_noTup:(∀ {v d as},Rd w h v d as→∀ a∈as,∀ vs n,h.get? a≠some (tpl vs n))∧(∀ {vs ds as},RdL w h vs ds as→∀ a∈as,∀ vs n,h.get? a≠some (tpl vs n)):=
 rd_both (P:=fun _ _ as=>∀ a∈as,∀ vs n,h.get? a≠some (tpl vs n)) (PL:=fun _ _ as=>∀ a∈as,∀ vs n,h.get? a≠some (tpl vs n)) nofun nofun nofun nofun (fun e _ r=>List.forall_mem_cons.mpr ⟨fun _ _ q=>cls_ne (by decide) e q,r⟩) (fun _ _ r=>r) (fun e _ _ _ r=>List.forall_mem_cons.mpr ⟨fun _ _ q=>cls_ne (by decide) e q,r⟩) nofun fun _ a _ b=>List.forall_mem_append.mpr ⟨a,b⟩
theorem RdL.noTup{vs:List Value}{ds:List V}{as:List Addr}(x:RdL w h vs ds as):∀ a∈as,∀ vs n,h.get? a≠some (tpl vs n):=rd_noTup.2 x
theorem rd_reads:(∀ {v d as},Rd w h v d as→∀ n,shapedD n d=true→Reads h v d as)∧(∀ {vs ds as},RdL w h vs ds as→∀ n,ds.all (shapedD n)=true→ReadsAll h vs ds as):=by
 refine rd_both (P:=fun v d as=>∀ n,shapedD n d=true→Reads h v d as) (PL:=fun vs ds as=>∀ n,ds.all (shapedD n)=true→ReadsAll h vs ds as) (fun _ _=>.none) (fun b _ _=>.bool b) (fun i t _ _=>.int i t) (fun x t _ _=>.str x t) ?_ ?_ ?_ (fun _ _=>.nil) ?_
 ·intro a vs n ds as e _ r m hs
  cases m with
  | zero=>cases hs
  | succ m=>exact .list e rfl rfl (r m hs)
 ·intro a vs n ds as e _ r m hs
  cases m with
  | zero=>cases hs
  | succ m=>exact .tuple e rfl rfl (r m hs)
 ·intro a es n ks ds as _ _ _ _ _ m hs
  cases m <;> cases hs
 ·intro v vs d ds as bs _ a _ b m hs
  rw[List.all_cons,Bool.and_eq_true]at hs
  exact .cons (a m hs.1) (b m hs.2)
theorem Rd.reads{v:Value}{d:V}{as:List Addr}(x:Rd w h v d as)(n:Nat)(hs:shapedD n d=true):Reads h v d as:=rd_reads.1 x n hs
theorem Rd.exa:∀ (n:Nat) {v:Value} {d:V} {as:List Addr},keyD n d=true→Rd w h v d as→exaN n h v d:=by
 intro n
 induction n with
 | zero=>intro v d as h;cases h
 | succ n ih=>
  intro v d as hk r
  cases r with
  | int i t=>exact⟨t,rfl⟩
  | str x t=>exact⟨t,rfl⟩
  | tuple e r=>
   refine⟨_,_,_,rfl,e,?_⟩
   have all:∀ {vs:List Value} {ds:List V} {as:List Addr},ds.all (keyD n)=true→RdL w h vs ds as→All2 (exaN n h) vs ds:=by
    intro vs ds as hd ra
    induction ds generalizing vs as with
    | nil=>cases ra;exact .nil
    | cons d ds ihd=>
     cases ra with
     | cons x y=>
      simp only[List.all_cons,Bool.and_eq_true]at hd
      exact .cons (ih hd.1 x) (ihd hd.2 y)
   exact all hk r
  | _=>cases hk
theorem rd_exa:∀ (n:Nat) {v:Value} {d:V},exaN n h v d→Rd w h v d []:=by
 intro n
 induction n with
 | zero=>intro v d x;exact x.elim
 | succ n ih=>
  intro v d x
  cases d with
  | int i=>obtain⟨t,rfl⟩:=x;exact .int i t
  | str i=>obtain⟨t,rfl⟩:=x;exact .str i t
  | tuple ds=>
   obtain⟨a,vs,m,rfl,g,al⟩:=x
   refine .tuple g ?_
   clear g
   induction al with
   | nil=>exact .nil
   | cons a _ ihd=>exact .cons (ih a) ihd
  | _=>exact x.elim
theorem tkey_rb{N:Addr→Prop}{b:Bool}{k:V}{a:Addr}(x:TKey h k a):Rb w N b h (.ref a) k:=let ⟨_,_,_,_,e⟩:=x;⟨[],rd_exa 7 e,fun _ m=>nomatch m⟩
theorem shaped_of:∀ (n:Nat) (d:V),shapedD n d=true→d.canLay0=true∧d.depth≤n:=by
 have flat:∀ d:V,flatD d=true→d.canLay0=true∧d.depth=0:=by
  intro d h
  cases d <;> first | exact⟨h,rfl⟩ | exact⟨rfl,rfl⟩ | cases h
 intro n
 induction n with
 | zero=>intro d h;have:=flat d h;exact⟨this.1,by omega⟩
 | succ n ih=>
  have all:∀ xs:List V,xs.all (shapedD n)=true→PyData.canLayAll0 xs=true∧PyData.depthAll xs≤n:=by
   intro xs
   induction xs with
   | nil=>intro _;simp [PyData.canLayAll0,PyData.depthAll]
   | cons x xs hi=>
    intro h
    simp only[List.all_cons,Bool.and_eq_true]at h
    have h1:=ih x h.1
    have h2:=hi h.2
    simp only[PyData.canLayAll0,PyData.depthAll,h1.1,h2.1,Bool.and_self,true_and]
    have:=h1.2;have:=h2.2;omega
  intro d h
  have ff:flatD d=true→d.canLay0=true∧d.depth≤n + 1:=fun q=>⟨(flat d q).1,by rw[(flat d q).2];exact Nat.zero_le _⟩
  cases d with
  | list xs=>
   have q:=all xs h
   simp only[PyData.canLay0,PyData.depth,q.1,true_and]
   have:=q.2;omega
  | tuple xs=>
   have q:=all xs h
   simp only[PyData.canLay0,PyData.depth,q.1,true_and]
   have:=q.2;omega
  | _=>exact ff h
end
end Mine
end
noncomputable section
open PySem PySem.W PyProof.Rows
namespace Mine
variable{w:Pk}{A:Around}{s:Shared}{N:Addr→Prop}
noncomputable abbrev Out(w:Pk)(s:Shared)(N:Addr→Prop)(b:Bool)(d:V)(fr:Bool)(Q:Value→Shared→Prop):Prop:=
 ∀ v h' tk,Kp s.heap h'→Rb w N b h' v d→(fr=true→isCont d=true→∃ a,v=.ref a∧s.heap.get? a=none)→Q v (sx s h' tk)
noncomputable abbrev Live(N:Addr→Prop)(h:Heap):Prop:=∀ a,N a→∃ o,h.get? a=some o
theorem Live.keeps{h h':Heap}(k:Kp h h')(x:Live N h):Live N h':=fun a n=>let ⟨o,e⟩:=x a n;⟨o,k _ _ e⟩
theorem Live.fresh{h:Heap}(x:Live N h):¬ N h.objs.size:=fun n=>let ⟨_,e⟩:=x _ n;Nat.lt_irrefl _ (Heap.lt_size e)
theorem none_size(h:Heap):h.get? h.objs.size=none:=by
 cases q:h.get? h.objs.size with
 | none=>rfl
 | some o=>exact absurd (Heap.lt_size q) (Nat.lt_irrefl _)
theorem kp_push(h:Heap)(o:Obj):Kp h (h.push o):=fun _ _ e=>Heap.get?_push_of_some _ e
theorem out_flat{b fr:Bool}{d:V}{v:Value}{tk:Nat}{Q:Value→Shared→Prop}(o:Out w s N b d fr Q)(r:Rb w N b s.heap v d)(c:isCont d=false):Q v { s with toks:=tk }:=
 o v s.heap tk (Kp.refl _) r fun _ q=>by rw[c]at q;cases q
theorem rb_int(b:Bool)(h:Heap)(i:Int)(t:Tok):Rb w N b h (.int i t) (.int i):=⟨[],.int i t,fun _ m=>nomatch m⟩
theorem rb_bool(b:Bool)(h:Heap)(i:Bool):Rb w N b h (.bool i) (.bool i):=⟨[],.bool i,fun _ m=>nomatch m⟩
theorem rb_str(b:Bool)(h:Heap)(x:Str)(t:Tok):Rb w N b h (.str x t) (.str x):=⟨[],.str x t,fun _ m=>nomatch m⟩
theorem rb_none(b:Bool)(h:Heap):Rb w N b h .none .none:=⟨[],.none,fun _ m=>nomatch m⟩
theorem rb_int_inv{b:Bool}{h:Heap}{v:Value}{i:Int}(r:Rb w N b h v (.int i)):∃ t,v=.int i t:=by obtain⟨_,r,_⟩:=r;cases r;exact⟨_,rfl⟩
theorem rb_bool_inv{b:Bool}{h:Heap}{v:Value}{i:Bool}(r:Rb w N b h v (.bool i)):v=.bool i:=by obtain⟨_,r,_⟩:=r;cases r;rfl
theorem rb_str_inv{b:Bool}{h:Heap}{v:Value}{i:Str}(r:Rb w N b h v (.str i)):∃ t,v=.str i t:=by obtain⟨_,r,_⟩:=r;cases r;exact⟨_,rfl⟩
theorem rb_none_inv{b:Bool}{h:Heap}{v:Value}(r:Rb w N b h v .none):v=.none:=by obtain⟨_,r,_⟩:=r;cases r;rfl
theorem rb_tup_inv{b:Bool}{h:Heap}{v:Value}{ds:List V}(r:Rb w N b h v (.tuple ds)):∃ a vs n,v=.ref a∧h.get? a=some (tpl vs.toArray n)∧RbL w N false h vs ds:=by
 obtain⟨as,r,q⟩:=r
 cases r with
 | tuple e r=>
  refine⟨_,_,_,rfl,e,rbL_of r fun a m n=>?_⟩
  obtain⟨_,q2⟩:=q a m n
  cases q2
  exact RdL.noTup r _ m _ _ e
theorem rb_lst_inv{b:Bool}{h:Heap}{v:Value}{ds:List V}(r:Rb w N b h v (.list ds)):∃ a vs n,v=.ref a∧h.get? a=some (lst vs.toArray n)∧RbL w N false h vs ds∧(b=false→¬ N a):=by
 obtain⟨as,r,q⟩:=r
 cases r with
 | list e r=>
  refine⟨_,_,_,rfl,e,rbL_of r fun a m n=>?_,fun hb n=>?_⟩
  ·obtain⟨_,q2⟩:=q a (.tail _ m) n
   cases q2
   exact not_own r (.list e r) m
  ·have:=(q _ (.head _) n).1;rw[hb]at this;cases this
theorem new_lst{fr:Bool}{vs:List Value}{ds:List V}{h':Heap}{tk:Nat}{Q:Value→Shared→Prop}(L:Live N s.heap)(o:Out w s N false (.list ds) fr Q)(k:Kp s.heap h')(x:RbL w N false h' vs ds):
  Q (.ref h'.objs.size) { s with heap:=h'.push { cls:=.type "list",data:=.seq vs.toArray },toks:=tk }:=
 o _ _ _ (k.trans (kp_push _ _)) (Rb.lst false (fun _=>(L.keeps k).fresh) (Heap.get?_push_size _ rfl) (x.keeps (kp_push _ _))) fun _ _=>⟨_,rfl,by
  cases q:s.heap.get? h'.objs.size with
  | none=>rfl
  | some ob=>exact absurd (Heap.lt_size (k _ _ q)) (Nat.lt_irrefl _)⟩
theorem new_tpl{b fr:Bool}{vs:List Value}{ds:List V}{h':Heap}{tk:Nat}{Q:Value→Shared→Prop}(o:Out w s N b (.tuple ds) fr Q)(k:Kp s.heap h')(x:RbL w N false h' vs ds):
  Q (.ref h'.objs.size) { s with heap:=h'.push { cls:=.type "tuple",data:=.seq vs.toArray },toks:=tk }:=
 o _ _ _ (k.trans (kp_push _ _)) (Rb.tup b (Heap.get?_push_size _ rfl) (x.keeps (kp_push _ _))) fun _ q=>nomatch q
theorem okInt_log{i:Int}(h:okInt i=true)(hz:i.natAbs≠0):i.natAbs.log2 < 4000:=(Nat.log2_lt hz).mpr (Nat.blt_eq.mp h)
theorem okInt_bits{i:Int}(h:okInt i=true):Builtin.Int.intBits i≤4000:=by
 unfold Builtin.Int.intBits
 by_cases q:(i==0)=true
 ·rw[if_pos q];exact Nat.zero_le _
 ·rw[if_neg q];exact okInt_log h fun e=>q (by rw[Int.natAbs_eq_zero.mp e];rfl)
theorem okInt_pylong{a b:Int}(h:okInt a=true):Builtin.divisionGoesByPylong a b=false:=by
 unfold Builtin.divisionGoesByPylong
 have:(if (a==0)=true then 0 else a.natAbs.log2 / 30 + 1)≤150:=by
  by_cases q:(a==0)=true
  ·rw[if_pos q];exact Nat.zero_le _
  ·rw[if_neg q];have:=okInt_log h fun e=>q (by rw[Int.natAbs_eq_zero.mp e];rfl);omega
 simp only[Bool.and_eq_false_iff,decide_eq_false_iff_not]
 omega
theorem mul_fits{a b:Int}(h1:okInt a=true)(h2:okInt b=true):IntMulOk a b:=by
 have h1:=okInt_bits h1
 have h2:=okInt_bits h2
 unfold IntMulOk Builtin.Int.intTooBig bitsLine
 simp only[Bool.and_eq_true,decide_eq_true_eq,not_and]
 omega
theorem All2.append{α β:Type}{R:α→β→Prop}{as cs:List α}{bs ds:List β}(x:All2 R as bs)(y:All2 R cs ds):All2 R (as++cs) (bs++ds):=by
 induction x with
 | nil=>exact y
 | cons a _ ih=>exact .cons a ih
theorem All2.replicate{α β:Type}{R:α→β→Prop}{a:α}{b:β}(x:R a b):∀ n,All2 R (List.replicate n a) (List.replicate n b)
 | 0=>.nil
 | n + 1=>.cons x (All2.replicate x n)
theorem All2.get{α β:Type}{R:α→β→Prop}{as:List α}{bs:List β}(x:All2 R as bs):∀ {i:Nat} {b:β},bs[i]?=some b→∃ a,as[i]?=some a∧R a b:=by
 induction x with
 | nil=>intro i b h;simp at h
 | cons a _ ih=>
  intro i b h
  cases i with
  | zero=>simp at h;subst h;exact⟨_,rfl,a⟩
  | succ i=>simpa using ih (by simpa using h)
theorem fold_rep(v:Value):∀ (n:Nat) (acc:Array Value),List.foldl (fun x1 x2=>x1++x2) acc (List.replicate n #[v])=acc++(List.replicate n v).toArray
 | 0,acc=>by simp
 | n + 1,acc=>by
  rw[List.replicate_succ,List.foldl_cons,fold_rep v n,List.replicate_succ]
  apply Array.ext'
  simp
theorem cat_arr(a b:List Value):(a++b).toArray=a.toArray++b.toArray:=by simp
theorem cat_len{a b:List Value}{c d:List V}{h:Heap}(x:RbL w N false h a c)(y:RbL w N false h b d)(l:c.length + d.length≤1000000):a.toArray.size + b.toArray.size≤sizeLine:=by
 rw[List.size_toArray,List.size_toArray,x.length,y.length];exact Nat.le_trans l (by decide)
section
variable{fr:Bool}{Q:Value→Shared→Prop}{v₁ v₂:Value}
theorem bin_lst{a b:List V}(h:a.length + b.length≤1000000)(r1:Rb w N false s.heap v₁ (.list a))(r2:Rb w N false s.heap v₂ (.list b))(L:Live N s.heap)(o:Out w s N false (.list (a++b)) fr Q):wpAny (model prog w.w) A (binaryOp .Add v₁ v₂) Q E s:=by
 obtain⟨l,vs,n,rfl,e1,q1,_⟩:=rb_lst_inv r1
 obtain⟨l2,ws,m,rfl,e2,q2,_⟩:=rb_lst_inv r2
 refine concat_meets ⟨_,e1,rfl⟩ ⟨_,e2,rfl⟩ noFill_list_add seq_list_add PySem.F.slot_list_add PySem.F.entry_list_add (PySem.F.args_list_add_2 _ _) (list_addW l l2 vs.toArray ws.toArray n m none none #[] #[] (cat_len q1 q2 h)) ⟨e1,e2,?_⟩
 rw[← cat_arr]
 exact new_lst L o (Kp.refl _) (q1.append q2)
theorem not_nil{vs:List Value}{a:List V}{h:Heap}(q:RbL w N false h vs a)(h1:a≠[]):¬ vs.toArray.isEmpty=true:=by
 cases q with
 | nil=>exact absurd rfl h1
 | cons=>exact Bool.false_ne_true
theorem bin_tup{a b:List V}(h:a.length + b.length≤1000000)(r1:Rb w N false s.heap v₁ (.tuple a))(r2:Rb w N false s.heap v₂ (.tuple b))(o:Out w s N false (.tuple (a++b)) fr Q):wpAny (model prog w.w) A (binaryOp .Add v₁ v₂) Q E s:=by
 obtain⟨l,vs,n,rfl,e1,q1⟩:=rb_tup_inv r1
 obtain⟨l2,ws,m,rfl,e2,q2⟩:=rb_tup_inv r2
 by_cases h1:a=[]
 ·subst h1
  cases q1
  exact concat_meets ⟨_,e1,rfl⟩ ⟨_,e2,rfl⟩ noFill_tuple_add seq_tuple_add PySem.F.slot_tuple_add PySem.F.entry_tuple_add (PySem.F.args_tuple_add_2 _ _) (AutoSeq1.tuple___add___tuple_tuple_0 l _ n l2 ws.toArray m rfl) ⟨e1,e2,o _ _ _ (Kp.refl _) r2 fun _ q=>nomatch q⟩
 ·by_cases h2:b=[]
  ·subst h2
   cases q2
   rw[List.append_nil]at o
   exact concat_meets ⟨_,e1,rfl⟩ ⟨_,e2,rfl⟩ noFill_tuple_add seq_tuple_add PySem.F.slot_tuple_add PySem.F.entry_tuple_add (PySem.F.args_tuple_add_2 _ _) (AutoSeq1.tuple___add___tuple_tuple_1 l _ n l2 _ m (not_nil q1 h1) rfl) ⟨e1,e2,o _ _ _ (Kp.refl _) r1 fun _ q=>nomatch q⟩
  ·refine concat_meets ⟨_,e1,rfl⟩ ⟨_,e2,rfl⟩ noFill_tuple_add seq_tuple_add PySem.F.slot_tuple_add PySem.F.entry_tuple_add (PySem.F.args_tuple_add_2 _ _) (AutoSeq1.tuple___add___tuple_tuple_2 l _ n l2 _ m (not_nil q1 h1) (not_nil q2 h2) (cat_len q1 q2 h)) ⟨e1,e2,?_⟩
   rw[← cat_arr]
   exact new_tpl o (Kp.refl _) (q1.append q2)
theorem fold_one(v:Value)(n:Nat):List.foldl (fun x1 x2=>x1++x2) #[] (List.replicate n #[v])=(List.replicate n v).toArray:=by rw[fold_rep];simp
theorem bin_rep{x:V}{b:Int}(h:b.natAbs≤1000000)(r1:Rb w N false s.heap v₁ (.list [x]))(r2:Rb w N false s.heap v₂ (.int b))(L:Live N s.heap)(o:Out w s N false (.list (List.replicate b.toNat x)) fr Q):wpAny (model prog w.w) A (binaryOp .Mult v₁ v₂) Q E s:=by
 obtain⟨l,vs,n,rfl,e1,q1,_⟩:=rb_lst_inv r1
 obtain⟨u,rfl⟩:=rb_int_inv r2
 cases q1 with
 | @cons v _ _ _ q qn=>
  cases qn
  refine wpAny_binaryOp_repeat_ref (T:="list") (U:="int") (by decide) ⟨_,e1,rfl⟩ (fun s'=>typeIs_int s' b u) noFill_list_mul PySem.F.fills_int_mul PySem.F.slot_int_rmul repeat_list PySem.F.slot_int_index.lookup
   (call_meets PySem.F.slot_int_rmul (typeIs_int s b u) PySem.F.entry_int_rmul (PySem.F.args_int_rmul_2 _ _) (int___rmul___int_list b u l _ n)
    ⟨e1,rfl,⟨_,e1,rfl⟩,call_meets PySem.F.slot_list_mul ⟨_,e1,rfl⟩ PySem.F.entry_list_mul (PySem.F.args_list_mul_2 _ _)
     (AutoListH.list___mul___list_int_3 l _ n b u ?_ ?_ ?_) ⟨e1,?_⟩⟩)
  ·simp only[Builtin.List.listFitsIndex,Bool.not_eq_true',Bool.not_eq_false,Bool.and_eq_true,decide_eq_true_eq];omega
  ·simp only[List.size_toArray,List.length_cons,List.length_nil];omega
  ·simp only[Builtin.List.listTooLong,sizeLine,List.size_toArray,List.length_cons,List.length_nil,decide_eq_true_eq];omega
  ·show Q _ { s with heap:=s.heap.push { cls:=.type "list",data:=.seq (List.foldl (fun x1 x2=>x1++x2) #[] (List.replicate b.toNat #[v])) } }
   rw[fold_one]
   exact new_lst L o (Kp.refl _) (All2.replicate q _)
theorem bits_pow{a:Int}{n:Nat}(h:n≤100)(h1:okInt a=true):(Builtin.Int.intBits a:Int) * n≤2 ^ 27:=by
 have h2:=Nat.mul_le_mul (okInt_bits h1) h
 have:((Builtin.Int.intBits a * n:Nat):Int)≤((4000 * 100:Nat):Int):=Int.ofNat_le.mpr h2
 exact Int.le_trans (Int.le_of_eq (Int.natCast_mul _ _).symm) (Int.le_trans this (by decide))
theorem op_bin{op:Operator}{x y z:V}(hz:BinR op x y z)(r1:Rb w N false s.heap v₁ x)(r2:Rb w N false s.heap v₂ y)(L:Live N s.heap)(o:Out w s N false z fr Q):
  wpAny (model prog w.w) A (binaryOp op v₁ v₂) Q E s:=by
 cases hz with
 | addL h=>exact bin_lst h r1 r2 L o
 | addT h=>exact bin_tup h r1 r2 o
 | rep h=>exact bin_rep h r1 r2 L o
 | addI=>obtain⟨t,rfl⟩:=rb_int_inv r1;obtain⟨u,rfl⟩:=rb_int_inv r2;exact add_int (out_flat o (rb_int _ _ _ _) rfl)
 | sub=>obtain⟨t,rfl⟩:=rb_int_inv r1;obtain⟨u,rfl⟩:=rb_int_inv r2;exact sub_int (out_flat o (rb_int _ _ _ _) rfl)
 | mul h1 h2=>obtain⟨t,rfl⟩:=rb_int_inv r1;obtain⟨u,rfl⟩:=rb_int_inv r2;exact mul_int (out_flat o (rb_int _ _ _ _) rfl) (mul_fits h1 h2)
 | mod h=>obtain⟨t,rfl⟩:=rb_int_inv r1;obtain⟨u,rfl⟩:=rb_int_inv r2;exact mod_int' h (out_flat o (rb_int _ _ _ _) rfl)
 | pow h h1=>obtain⟨t,rfl⟩:=rb_int_inv r1;obtain⟨u,rfl⟩:=rb_int_inv r2;exact pow_int (Int.natCast_nonneg _) (bits_pow h h1) (out_flat o (rb_int _ _ _ _) rfl)
 | div h h1=>obtain⟨t,rfl⟩:=rb_int_inv r1;obtain⟨u,rfl⟩:=rb_int_inv r2;exact floordiv_int h (out_flat o (rb_int _ _ _ _) rfl) (.inl (okInt_pylong h1))
end
theorem rb_reads{b:Bool}{h:Heap}{v:Value}{d:V}{n:Nat}(r:Rb w N b h v d)(hs:shapedD n d=true):∃ as,Reads h v d as:=let ⟨as,r,_⟩:=r;⟨as,r.reads n hs⟩
theorem toks_eta(s:Shared):({ s with toks:=s.toks }:Shared)=s:=rfl
theorem op_truthy{v:Value}{d:V}{t:Bool}{b:Bool}{Q:Bool→Shared→Prop}(ht:Mine.truthy d=some t)(r:Rb w N b s.heap v d)(q:Q t s):wpAny (model prog w.w) A (PySem.truthy v) Q E s:=by
 cases d with
 | bool c=>
  have e:c=t:=Option.some.inj ht
  obtain rfl:=rb_bool_inv r
  exact wpAny_truthy_bool (e▸q)
 | _=>cases ht
theorem shaped12{d:V}(h:shapedD 12 d=true):SeqAt.shaped d=true:=by
 have:=shaped_of 12 d h
 unfold SeqAt.shaped
 rw[this.1,Bool.true_and];exact decide_eq_true (by omega)
theorem shapedL{ds:List V}(h:ds.all (shapedD 12)=true):PyData.canLayAll0 ds=true∧PyData.depthAll ds≤12:=by
 have:=shaped_of 13 (.list ds) h
 simp only[PyData.canLay0,PyData.depth]at this
 exact⟨this.1,by omega⟩
section
variable{x y:V}{v₁ v₂:Value}{t:Bool}{Q:Value→Shared→Prop}
theorem not_none{x:V}{v:Value}{b:Bool}{h:Heap}(hx:x ≠ .none)(r:Rb w N b h v x):v ≠ .none:=fun e=>by
 subst e
 obtain⟨_,r,_⟩:=r
 cases r
 exact hx rfl
theorem two_ints{a b:Int}{c d:Bool}{h:Heap}{p:Value→Value→Prop}(r1:Rb w N c h v₁ (.int a))(r2:Rb w N d h v₂ (.int b))(q:∀ t u,p (.int a t) (.int b u)):p v₁ v₂:=by
 obtain⟨t,rfl⟩:=rb_int_inv r1
 obtain⟨u,rfl⟩:=rb_int_inv r2
 exact q t u
theorem op_cmp{op:CmpOp}{b c:Bool}(hz:CmpR op x y t)(nd:∀ ps,y ≠ .dict ps)(r1:Rb w N b s.heap v₁ x)(r2:Rb w N c s.heap v₂ y)(hu:A.units + 70 < cLine)(q:Q (.bool t) s):
  wpAny (model prog w.w) A (compareOp op v₁ v₂) Q E s:=by
 cases hz with
 | eq h1 h2=>
  obtain⟨as,q1⟩:=rb_reads r1 h1
  obtain⟨bs,q2⟩:=rb_reads r2 h2
  exact SeqAt.compareEq_shaped q1 q2 (shaped12 h1) (shaped12 h2) (by omega) q
 | ne h1 h2=>
  obtain⟨as,q1⟩:=rb_reads r1 h1
  obtain⟨bs,q2⟩:=rb_reads r2 h2
  exact SeqAt.compareNe_shaped q1 q2 (shaped12 h1) (shaped12 h2) (by omega) q
 | lt=>exact two_ints (p:=fun a b=>wpAny (model prog w.w) A (compareOp .Lt a b) Q E s) r1 r2 fun _ _=>PyProof.Rows.lt_int q
 | le=>exact two_ints (p:=fun a b=>wpAny (model prog w.w) A (compareOp .LtE a b) Q E s) r1 r2 fun _ _=>PyProof.Rows.le_int q
 | gt=>exact two_ints (p:=fun a b=>wpAny (model prog w.w) A (compareOp .Gt a b) Q E s) r1 r2 fun _ _=>PyProof.Rows.gt_int q
 | ge=>exact two_ints (p:=fun a b=>wpAny (model prog w.w) A (compareOp .GtE a b) Q E s) r1 r2 fun _ _=>PyProof.Rows.ge_int q
 | is1=>obtain rfl:=rb_none_inv r1;obtain rfl:=rb_none_inv r2;exact is_none_none q
 | is0 h=>obtain rfl:=rb_none_inv r2;exact is_none_ne (not_none h r1) q
 | not1=>obtain rfl:=rb_none_inv r1;obtain rfl:=rb_none_inv r2;exact isnot_none_none q
 | not0 h=>obtain rfl:=rb_none_inv r2;exact isnot_none_ne (not_none h r1) q
 | inL h1 h2=>
  obtain⟨as,q1⟩:=rb_reads r1 h1
  obtain⟨bs,q2⟩:=rb_reads r2 (n:=13) h2
  have l:=shapedL h2
  exact SeqAt.in_list_reads q2 q1 l.1 (shaped_of 12 _ h1).1 (by omega) q
 | inT h1 h2=>
  obtain⟨as,q1⟩:=rb_reads r1 h1
  obtain⟨bs,q2⟩:=rb_reads r2 (n:=13) h2
  have l:=shapedL h2
  exact SeqAt.in_tuple_reads q2 q1 l.1 (shaped_of 12 _ h1).1 (by omega) q
 | inD h=>exact absurd rfl (nd _)
end
theorem sub_ops(slice:PySem.Expr)(o i:Value):∃ xs,subscripted slice false o i=operate xs (getItem o i):=by
 cases slice with
 | Slice _ _ c _=>cases c <;> exact⟨_,rfl⟩
 | _=>exact⟨_,rfl⟩
theorem tail_any{value slice:PySem.Expr}{o i:Value}{T id:String}{Q:Value→Shared→Prop}(hT:s.TypeIs o T)
  (hl:typeLookup (.type T) "__getitem__" = pure (some (.builtin id))) (h:wpAny (model prog w.w) A (getItem o i) Q E s):wpAny (model prog w.w) A (subscriptTail value slice o i) Q E s:=by
 unfold subscriptTail
 refine wpAny_bind ?_
 rw[getitemInPython_of_ne hT.not_modules]
 refine wpAny_bind (wpAny_specialOf hT hl (wpAny_pure (wpAny_bind ?_)))
 obtain⟨xs,e⟩:=sub_ops slice o i
 rw[e]
 exact wpAny_operate' (wpAny_mono h (fun r s₃ h₃=>wpAny_bind (wpAny_letTemporaryGo (wpAny_pure h₃))) fun _ _ x=>x)
theorem isList_of{h:Heap}{a:Addr}{vs:List Value}{n:Nat}(e:h.get? a=some (lst vs.toArray n)):h.IsList a vs.toArray:=⟨_,e,rfl,n,rfl⟩
theorem isTup_of{h:Heap}{a:Addr}{vs:List Value}{n:Nat}(e:h.get? a=some (tpl vs.toArray n)):IsTup h a vs.toArray:=⟨_,e,rfl,n,rfl⟩
theorem get_list{a:Addr}{vs:List Value}{k:Int}{t:Tok}{j:Nat}{x:Value}{Q:Value→Shared→Prop}(hl:s.heap.IsList a vs.toArray)(hk:k.natAbs < 4611686018427387904)(hj:seqIndex? k vs.length=some j)(hx:vs[j]?=some x)(q:Q x s):
  wpAny (model prog w.w) A (getItem (.ref a) (.int k t)) Q E s:=by
 have hx2:vs.toArray[j]?=some x:=List.getElem?_toArray.trans hx
 unfold seqIndex? at hj
 by_cases h0:k < 0
 ·rw[if_pos h0]at hj
  by_cases hc:(decide (0≤k + vs.length)&&decide (k + vs.length < vs.length))=true
  ·have hj:=(if_pos hc).symm.trans hj
   cases hj
   rw[Bool.and_eq_true,decide_eq_true_eq]at hc
   exact wpAny_getItem_list_neg hl h0 (by rw[List.size_toArray];omega) (by omega) (by rw[List.size_toArray];exact hx2) q
  ·cases (if_neg hc).symm.trans hj
 ·rw[if_neg h0]at hj
  by_cases hc:(decide (0≤k)&&decide (k < vs.length))=true
  ·have hj:=(if_pos hc).symm.trans hj
   cases hj
   exact wpAny_getItem_list hl (Int.not_lt.mp h0) (by omega) hx2 q
  ·cases (if_neg hc).symm.trans hj
theorem at_of{vs:List Value}{xs:List V}{i:Int}{z:V}{h:Heap}(q1:RbL w N false h vs xs)(x:AtR xs i z):i.natAbs < 4611686018427387904∧∃ j v,seqIndex? i vs.length=some j∧vs[j]?=some v∧Rb w N false h v z:=by
 obtain⟨hk,j,hj,hx⟩:=x
 obtain⟨v,hv,rv⟩:=q1.get hx
 exact⟨hk,j,v,q1.length.symm▸hj,hv,rv⟩
theorem op_sub{value slice:PySem.Expr}{x k z:V}{o i:Value}{Q:Value→Shared→Prop}(hz:GetR x k z)(nd:∀ ps,x ≠ .dict ps)(r1:Rb w N true s.heap o x)(r2:Rb w N false s.heap i k)(q:∀ v,Rb w N false s.heap v z→Q v s):
  wpAny (model prog w.w) A (subscriptTail value slice o i) Q E s:=by
 cases hz with
 | list h=>
  obtain⟨a,vs,n,rfl,e,q1,_⟩:=rb_lst_inv r1
  obtain⟨t,rfl⟩:=rb_int_inv r2
  obtain⟨hk,j,v,hj,hv,rv⟩:=at_of q1 h
  exact tail_any (isList_of e).typeIs slot_list_getitem.lookup (get_list (isList_of e) hk hj hv (q _ rv))
 | tuple h=>
  obtain⟨a,vs,n,rfl,e,q1⟩:=rb_tup_inv r1
  obtain⟨t,rfl⟩:=rb_int_inv r2
  obtain⟨hk,j,v,hj,hv,rv⟩:=at_of q1 h
  exact tail_any (isTup_of e).typeIs slot_tuple_getitem.lookup (getItem_tuple (isTup_of e) (by omega) (by omega) hj (List.getElem?_toArray.trans hv) (q _ rv))
 | dict h=>exact absurd rfl (nd _)
theorem op_neg{i:Int}{v:Value}{Q:Value→Shared→Prop}(r:Rb w N false s.heap v (.int i))(q:∀ tk t,Q (.int (-i) t) { s with toks:=tk }):wpAny (model prog w.w) A (unaryOp .USub v) Q E s:=by
 obtain⟨t,rfl⟩:=rb_int_inv r
 exact neg_int (q _ _)
end Mine
end
noncomputable section
open PySem PySem.W PyProof.Rows
namespace Mine
variable{w:Pk}{A:Around}{s:Shared}{N:Addr→Prop}
open scoped Classical
theorem eqK_spec{a b:V}{t:Bool}(h:eqK a b=some t):keyD 7 a=true∧(t=true↔a=b)∧kindK a=kindK b:=by
 by_cases q:(keyD 7 a&&keyD 7 b&&kindK a==kindK b)=true
 ·cases (if_pos q).symm.trans h
  rw[Bool.and_eq_true,Bool.and_eq_true,beq_iff_eq]at q
  exact⟨q.1.1,eqv_key 7 a b q.1.1 q.1.2,q.2⟩
 ·cases (if_neg q).symm.trans h
inductive Found(k:V)(ps:List (V × V)):Option V→Prop
 | none(h:k∉ps.map (·.1))(hk:∀ k' ∈ ps.map (·.1),kindK k=kindK k'):Found k ps none
 | some{i:Nat}{z:V}(h:ps[i]?=some (k,z)):Found k ps (some z)
theorem found{k:V}{ps:List (V × V)}{f:Option V}(h:findK k ps=some f):keyD 7 k=true∧Found k ps f:=by
 induction ps with
 | nil=>
  by_cases q:keyD 7 k=true
  ·cases (if_pos q).symm.trans h;exact⟨q,.none List.not_mem_nil fun _ m=>nomatch m⟩
  ·cases (if_neg q).symm.trans h
 | cons p ps ih=>
  obtain⟨a,d⟩:=p
  rw[findK]at h
  cases e:eqK k a with
  | none=>rw[e]at h;cases h
  | some t=>
   rw[e]at h
   have s:=eqK_spec e
   cases t with
   | true=>cases h;exact⟨s.1,.some (i:=0) (by rw[s.2.1.mp rfl];rfl)⟩
   | false=>
    refine⟨s.1,?_⟩
    cases (ih h).2 with
    | none h1 h2=>
     refine .none (fun m=>?_) fun k' m=>?_
     ·rcases List.mem_cons.mp m with q | m
      ·cases s.2.1.mpr q
      ·exact h1 m
     ·rcases List.mem_cons.mp m with q | m
      ·exact s.2.2.trans (congrArg kindK q.symm)
      ·exact h2 k' m
    | @some i z h1=>exact .some (i:=i + 1) h1
theorem fst_zip{α β:Type}{a:List α}{b:List β}(h:a.length=b.length):(a.zip b).map (·.1)=a:=List.map_fst_zip (Nat.le_of_eq h)
theorem zip_mem{α β:Type}{a:List α}{b:List β}{i:Nat}{x:α}{y:β}(h:(a.zip b)[i]?=some (x,y)):a[i]?=some x∧b[i]?=some y:=List.getElem?_zip_eq_some.mp h
noncomputable def Kin(k:V)(ks:List V):Prop:=k∈ks∨∀ k' ∈ ks,kindK k=kindK k'
theorem Found.kin{k:V}{ks ds:List V}{f:Option V}(x:Found k (ks.zip ds) f)(hl:ks.length=ds.length):Kin k ks:=by
 cases x with
 | none _ h=>rw[fst_zip hl]at h;exact .inr h
 | some h=>exact .inl (List.mem_of_getElem? (zip_mem h).1)
theorem rb_dict_inv{b:Bool}{h:Heap}{v:Value}{ps:List (V × V)}(r:Rb w N b h v (.dict ps)):
  ∃ a es n ks ds,v=.ref a∧ps=ks.zip ds∧h.get? a=some (dct (List.toArray es) n)∧KeysOk w h es ks∧ks.length=ds.length∧RbL w N false h (es.map (·.val)) ds∧(b=false→¬ N a):=by
 obtain⟨as,r,q⟩:=r
 cases r with
 | @dict a es n ks ds as e x l r=>
  refine⟨a,es,n,ks,ds,rfl,rfl,e,x,l,rbL_of r fun a m n=>?_,fun hb n=>?_⟩
  ·obtain⟨_,q2⟩:=q a (.tail _ m) n
   cases q2
   exact not_own r (.dict e x l r) m
  ·have:=(q _ (.head _) n).1;rw[hb]at this;cases this
theorem dict_len{h:Heap}{es:List DictEntry}{ks:List V}(x:KeysOk w h es ks):es.length=ks.length:=by
 cases x with
 | kI a _=>rw[a.length,List.length_map]
 | kS a _=>rw[a.length,List.length_map]
 | kT a _=>exact a.length
theorem dictOf_flat{K:Type}[DecidableEq K]{knd:KeyKind prog w.w K}{h:Heap}{a:Addr}{es:List DictEntry}{n:Nat}{is:List K}(e:h.get? a=some (dct es.toArray n))(x:All2 (fun (e:DictEntry) (i:K)=>e.hash=knd.hash i∧knd.is i e.key=true) es is)(nd:is.Nodup):
  h.DictOf knd a (is.zip (es.map (·.val))):=by
 have hl:is.length=(es.map (·.val)).length:=x.length.symm.trans (List.length_map _).symm
 refine⟨_,_,n,e,⟨rfl,rfl,rfl⟩,rfl,?_,?_,by rw[fst_zip hl];exact nd⟩
 ·intro en m0
  have m:en∈es:=Array.mem_toList_iff.mpr m0
  clear m0 nd e hl
  induction x with
  | nil=>cases m
  | @cons a b as bs r _ ih=>
   rcases List.mem_cons.mp m with rfl | m
   ·exact⟨b,r.2,r.1⟩
   ·exact ih m
 ·clear nd e hl
  show Pairs knd es (is.zip (es.map (·.val)))
  induction x with
  | nil=>exact .nil
  | cons r _ ih=>exact .cons r.2 rfl ih
theorem is_int{e:DictEntry}{i:Int}(h:e.hash=hashInt i∧∃ t,e.key=.int i t):e.hash=(intKind prog w.w).hash i∧(intKind prog w.w).is i e.key=true:=by
 obtain⟨h1,t,h2⟩:=h
 exact⟨h1,by rw[h2];exact decide_eq_true rfl⟩
theorem is_str{e:DictEntry}{i:Str}(h:e.hash=hashStr w.w i∧∃ t,e.key=.str i t):e.hash=(PySem.strKind prog w.w).hash i∧(PySem.strKind prog w.w).is i e.key=true:=by
 obtain⟨h1,t,h2⟩:=h
 exact⟨h1,by rw[h2];exact beq_self_eq_true i⟩
theorem dictOf_int{h:Heap}{a:Addr}{es:List DictEntry}{n:Nat}{is:List Int}(e:h.get? a=some (dct es.toArray n))(x:All2 (fun (e:DictEntry) (i:Int)=>e.hash=hashInt i∧∃ t,e.key=.int i t) es is)(nd:is.Nodup):
  h.DictOf (intKind prog w.w) a (is.zip (es.map (·.val))):=dictOf_flat e (x.mono fun _ _=>is_int) nd
theorem dictOf_str{h:Heap}{a:Addr}{es:List DictEntry}{n:Nat}{is:List Str}(e:h.get? a=some (dct es.toArray n))(x:All2 (fun (e:DictEntry) (i:Str)=>e.hash=hashStr w.w i∧∃ t,e.key=.str i t) es is)(nd:is.Nodup):
  h.DictOf (PySem.strKind prog w.w) a (is.zip (es.map (·.val))):=dictOf_flat e (x.mono fun _ _=>is_str) nd
theorem valueAt_zip{K:Type}[DecidableEq K]{v:Value}{is:List K}{vs:List Value}{i:Nat}{k:K}(nd:is.Nodup)(h1:is[i]?=some k)(h2:vs[i]?=some v):valueAt (is.zip vs) k=some v:=by
 induction is generalizing vs i with
 | nil=>cases h1
 | cons a is ih=>
  cases vs with
  | nil=>cases h2
  | cons u vs=>
   rw[List.nodup_cons]at nd
   cases i with
   | zero=>cases h1;cases h2;unfold valueAt;rw[List.zip_cons_cons,List.find?_cons_of_pos (p:=fun kv:K × Value=>decide (kv.1=k)) (decide_eq_true rfl)];rfl
   | succ i=>
    have ne:¬ a=k:=fun q=>nd.1 (q▸List.mem_of_getElem? h1)
    refine Eq.trans ?_ (ih nd.2 h1 h2)
    unfold valueAt;rw[List.zip_cons_cons,List.find?_cons_of_neg (p:=fun kv:K × Value=>decide (kv.1=k)) (fun q=>ne (of_decide_eq_true q))]
theorem key_shaped:∀ (n:Nat) (d:V),keyD n d=true→shapedD n d=true:=by
 intro n
 induction n with
 | zero=>intro d h;simp [keyD]at h
 | succ n ih=>
  intro d h
  cases d <;> simp_all [keyD,shapedD,flatD]
theorem dictOf_tup{h:Heap}{a:Addr}{es:List DictEntry}{n:Nat}{ks:List V}(e:h.get? a=some (dct es.toArray n))(x:All2 (fun (e:DictEntry) (k:V)=>e.hash=hashD w k∧∃ b,e.key=.ref b∧TKey h k b) es ks)(nd:ks.Nodup):
  ∃ xs:List (V × Addr × Value),h.DictOfH (tupKind w) a xs∧xs.map (·.1)=ks∧xs.map (·.2.2)=es.map (·.val):=by
 have key:∃ xs:List (V × Addr × Value),es=xs.map (entryOfKey (tupKind w))∧(∀ y∈xs,TKey h y.1 y.2.1)∧xs.map (·.1)=ks∧xs.map (·.2.2)=es.map (·.val):=by
  clear nd e
  induction x with
  | nil=>exact⟨[],rfl,by simp,rfl,rfl⟩
  | @cons en k es ks r _ ih=>
   refine bc fun gG=>?_
   obtain⟨xs,h1,h2,h3,h4⟩:=ih
   obtain⟨q1,b,q2,q3⟩:=r
   refine gG ?_
   refine⟨(k,b,en.val)::xs,?_,?_,?_,?_⟩
   ·rw[List.map_cons,← h1]
    congr 1
    obtain⟨eh,ek,ev⟩:=en
    simp only at q1 q2
    subst q1 q2
    rfl
   ·intro y m
    rcases List.mem_cons.mp m with rfl | m
    ·exact q3
    ·exact h2 y m
   ·rw[List.map_cons,h3]
   ·rw[List.map_cons,List.map_cons,h4]
 refine bc fun gG=>?_
 obtain⟨xs,h1,h2,h3,h4⟩:=key
 refine gG ?_
 exact⟨xs,⟨_,_,n,e,⟨rfl,rfl,rfl⟩,rfl,by simpa using h1,h2,by rw[h3];exact nd⟩,h3,h4⟩
noncomputable def NoSys(w:Pk)(h:Heap):Prop:=∀ d as,¬ Rd w h (.ref sysModules) d as
theorem noSys_of{h:Heap}{es:List DictEntry}{n:Nat}{e:DictEntry}{m:Addr}{o:Obj}(h1:h.get? sysModules=some (dct es.toArray n))(h2:e∈es)(h3:e.val=.ref m)(h4:h.get? m=some o)(h5:o.cls=.type "module"):NoSys w h:=by
 intro d as r
 cases r with
 | list q=>rw[h1]at q;simp at q
 | tuple q=>rw[h1]at q;simp at q
 | @dict _ es' _ ks ds as q x l r=>
  rw[h1]at q
  simp only[Option.some.injEq,Obj.mk.injEq,Data.dict.injEq,List.toArray_eq_toArray_eq,and_true,true_and]at q
  obtain⟨rfl,_⟩:=q
  have key:∀ {vs:List Value} {ds:List V} {as:List Addr},RdL w h vs ds as→Value.ref m∉vs:=by
   intro vs
   induction vs with
   | nil=>intro _ _ _ q;cases q
   | cons v vs ih=>
    intro ds as r q
    cases r with
    | cons a b=>
     rcases List.mem_cons.mp q with q | q
     ·subst q
      cases a with
      | list e=>rw[h4]at e;cases e;exact absurd (Value.type.inj h5) (by decide)
      | tuple e=>rw[h4]at e;cases e;exact absurd (Value.type.inj h5) (by decide)
      | dict e=>rw[h4]at e;cases e;exact absurd (Value.type.inj h5) (by decide)
     ·exact ih b q
  exact key r (by rw[← h3];exact List.mem_map_of_mem h2)
theorem valueAt_none{K:Type}[DecidableEq K]{is:List K}{vs:List Value}{k:K}(h:k∉is):valueAt (is.zip vs) k=none:=by
 unfold valueAt
 rw[Option.map_eq_none_iff,List.find?_eq_none]
 rintro⟨x,u⟩ m q
 exact h (of_decide_eq_true q▸(List.of_mem_zip m).1)
theorem atKey_none{xs:List (V × Addr × Value)}{k:V}(h:k∉xs.map (·.1)):atKey xs k=none:=by
 unfold atKey
 rw[Option.map_eq_none_iff,List.find?_eq_none]
 intro x m q
 exact h (List.mem_map.mpr ⟨x,m,of_decide_eq_true q⟩)
theorem allTup{h:Heap}{es:List DictEntry}{ks:List V}(x:All2 (fun (e:DictEntry) (k:V)=>e.hash=hashD w k∧∃ b,e.key=.ref b∧TKey h k b) es ks):∀ k' ∈ ks,kindK k'=2:=by
 induction x with
 | nil=>intro k m;cases m
 | cons r _ ih=>
  intro k' m
  rcases List.mem_cons.mp m with rfl | m
  ·obtain⟨_,b,_,t⟩:=r
   have t:=t.2.1
   cases k' <;> first | rfl | cases t
  ·exact ih k' m
theorem mapKind{α:Type}{f:α→V}{n:Nat}(hf:∀ x,kindK (f x)=n){is:List α}:∀ k∈is.map f,kindK k=n:=fun k m=>by
 obtain⟨x,_,rfl⟩:=List.mem_map.mp m
 exact hf x
theorem kin_nil{k:V}{ks:List V}{n:Nat}(x:Kin k ks)(h:∀ k' ∈ ks,kindK k'=n)(ne:kindK k≠n):ks=[]:=by
 cases ks with
 | nil=>rfl
 | cons a ks=>
  rcases x with x | x
  ·exact absurd (h _ x) ne
  ·exact absurd ((x a (.head _)).trans (h a (.head _))) ne
theorem es_nil{h:Heap}{es:List DictEntry}{ks:List V}(x:KeysOk w h es ks)(q:ks=[]):es=[]:=List.eq_nil_of_length_eq_zero ((dict_len x).trans (congrArg List.length q))
theorem ko_int{h:Heap}{es:List DictEntry}{ks:List V}{i:Int}(x:KeysOk w h es ks)(hk:Kin (.int i) ks):∃ is:List Int,ks=is.map .int∧All2 (fun (e:DictEntry) (i:Int)=>e.hash=hashInt i∧∃ t,e.key=.int i t) es is∧is.Nodup:=by
 have nil:ks=[]→∃ is:List Int,ks=is.map .int∧All2 (fun (e:DictEntry) (i:Int)=>e.hash=hashInt i∧∃ t,e.key=.int i t) es is∧is.Nodup:=fun q=>⟨[],q,es_nil x q▸.nil,List.nodup_nil⟩
 cases x with
 | kI a nd=>exact⟨_,rfl,a,nd⟩
 | kS a nd=>exact nil (kin_nil hk (mapKind (n:=1) fun _=>rfl) (by decide:(0:Nat)≠1))
 | kT a nd=>exact nil (kin_nil hk (allTup a) (by decide:(0:Nat)≠2))
theorem ko_str{h:Heap}{es:List DictEntry}{ks:List V}{i:Str}(x:KeysOk w h es ks)(hk:Kin (.str i) ks):∃ is:List Str,ks=is.map .str∧All2 (fun (e:DictEntry) (i:Str)=>e.hash=hashStr w.w i∧∃ t,e.key=.str i t) es is∧is.Nodup:=by
 have nil:ks=[]→∃ is:List Str,ks=is.map .str∧All2 (fun (e:DictEntry) (i:Str)=>e.hash=hashStr w.w i∧∃ t,e.key=.str i t) es is∧is.Nodup:=fun q=>⟨[],q,es_nil x q▸.nil,List.nodup_nil⟩
 cases x with
 | kS a nd=>exact⟨_,rfl,a,nd⟩
 | kI a nd=>exact nil (kin_nil hk (mapKind (n:=0) fun _=>rfl) (by decide:(1:Nat)≠0))
 | kT a nd=>exact nil (kin_nil hk (allTup a) (by decide:(1:Nat)≠2))
theorem ko_tup{h:Heap}{es:List DictEntry}{ks:List V}{ts:List V}(x:KeysOk w h es ks)(hk:Kin (.tuple ts) ks):All2 (fun (e:DictEntry) (k:V)=>e.hash=hashD w k∧∃ b,e.key=.ref b∧TKey h k b) es ks∧ks.Nodup:=by
 have nil:ks=[]→All2 (fun (e:DictEntry) (k:V)=>e.hash=hashD w k∧∃ b,e.key=.ref b∧TKey h k b) es ks∧ks.Nodup:=fun q=>by
  rw[es_nil x q,q];exact⟨.nil,List.nodup_nil⟩
 cases x with
 | kT a nd=>exact⟨a,nd⟩
 | kS a nd=>exact nil (kin_nil hk (mapKind (n:=1) fun _=>rfl) (by decide:(2:Nat)≠1))
 | kI a nd=>exact nil (kin_nil hk (mapKind (n:=0) fun _=>rfl) (by decide:(2:Nat)≠0))
inductive Asked(w:Pk)(h:Heap)(a:Addr):Value→Option Value→Prop
 | flat {K:Type} [DecidableEq K] {knd:KeyKind prog w.w K} {k:K} {kvs:List (K × Value)} {i:Value} (hk:knd.is k i=true) (hd:h.DictOf knd a kvs):Asked w h a i (valueAt kvs k)
 | tup{k:V}{xs:List (V × Addr × Value)}{b:Addr}(tk:TKey h k b)(hd:h.DictOfH (tupKind w) a xs):Asked w h a (.ref b) ((atKey xs k).map (·.2))
inductive OptR(w:Pk)(N:Addr→Prop)(h:Heap):Option Value→Option V→Prop
 | none:OptR w N h none none
 | some{v:Value}{z:V}(r:Rb w N false h v z):OptR w N h (some v) (some z)
theorem OptR.isSome{h:Heap}{v:Option Value}{z:Option V}(x:OptR w N h v z):v.isSome=z.isSome:=by cases x <;> rfl
theorem optInv{h:Heap}{v:Option Value}{z:V}(x:OptR w N h v (some z)):∃ u,v=some u∧Rb w N false h u z:=by cases x with | some r=>exact⟨_,rfl,r⟩
theorem ask_flat{K:Type}[DecidableEq K]{f:K→V}(inj:∀ a b,f a=f b→a=b){h:Heap}{is:List K}{ds:List V}{vs:List Value}{k:K}{o:Option V}(nd:is.Nodup)(x:Found (f k) ((is.map f).zip ds) o)(hl:(is.map f).length=ds.length)(rl:RbL w N false h vs ds):
  OptR w N h (valueAt (is.zip vs) k) o:=by
 cases x with
 | none h1 _=>
  rw[fst_zip hl]at h1
  rw[valueAt_none fun m=>h1 (List.mem_map_of_mem m)]
  exact .none
 | some h1=>
  have h2:=zip_mem h1
  obtain⟨u,hu,ru⟩:=rl.get h2.2
  have h3:=h2.1
  rw[List.getElem?_map,Option.map_eq_some_iff]at h3
  obtain⟨k',hk,e⟩:=h3
  rw[valueAt_zip nd (hk.trans (congrArg Option.some (inj _ _ e))) hu]
  exact .some ru
theorem tkey{b:Bool}{h:Heap}{v:Value}{ts:List V}(kd:keyD 7 (.tuple ts)=true)(r:Rb w N b h v (.tuple ts)):∃ b,v=.ref b∧TKey h (.tuple ts) b:=by
 obtain⟨b,vs,m,rfl,eb,_⟩:=rb_tup_inv r
 obtain⟨as,rd,_⟩:=r
 exact⟨b,rfl,kd,rfl,as,rd.reads 7 (key_shaped 7 _ kd),rd.exa 7 kd⟩
theorem ask_tup{h:Heap}{xs:List (V × Addr × Value)}{ks ds:List V}{vs:List Value}{k:V}{o:Option V}(nd:ks.Nodup)(e1:xs.map (·.1)=ks)(e2:xs.map (·.2.2)=vs)(x:Found k (ks.zip ds) o)(hl:ks.length=ds.length)(rl:RbL w N false h vs ds):
  OptR w N h ((atKey xs k).map (·.2)) o:=by
 subst e1 e2
 cases x with
 | none h1 _=>
  rw[fst_zip hl]at h1
  rw[atKey_none h1]
  exact .none
 | some h1=>
  have h2:=zip_mem h1
  obtain⟨u,hu,ru⟩:=rl.get h2.2
  have h3:=h2.1
  rw[List.getElem?_map,Option.map_eq_some_iff]at h3 hu
  obtain⟨y,hy,e⟩:=h3
  obtain⟨y',hy',e'⟩:=hu
  cases hy.symm.trans hy'
  subst e e'
  rw[atKey_of_get nd hy]
  exact .some ru
theorem asked{h:Heap}{a:Addr}{es:List DictEntry}{n:Nat}{ks ds:List V}{k:V}{i:Value}{f:Option V}{b:Bool}(e:h.get? a=some (dct es.toArray n))(ko:KeysOk w h es ks)(hl:ks.length=ds.length)(rl:RbL w N false h (es.map (·.val)) ds)
  (hf:findK k (ks.zip ds)=some f) (r:Rb w N b h i k):∃ ov,Asked w h a i ov∧OptR w N h ov f:=by
 have hx:=found hf
 have hk:=hx.2.kin hl
 cases k with
 | int j=>
  obtain⟨t,rfl⟩:=rb_int_inv r
  obtain⟨is,rfl,x,nd⟩:=ko_int ko hk
  exact⟨_,.flat (decide_eq_true rfl) (dictOf_int e x nd),ask_flat (fun _ _ q=>PyData.int.inj q) nd hx.2 hl rl⟩
 | str j=>
  obtain⟨t,rfl⟩:=rb_str_inv r
  obtain⟨is,rfl,x,nd⟩:=ko_str ko hk
  exact⟨_,.flat (beq_self_eq_true j) (dictOf_str e x nd),ask_flat (fun _ _ q=>PyData.str.inj q) nd hx.2 hl rl⟩
 | tuple ts=>
  obtain⟨x,nd⟩:=ko_tup ko hk
  obtain⟨xs,hd,e1,e2⟩:=dictOf_tup e x nd
  obtain⟨b,rfl,tk⟩:=tkey hx.1 r
  exact⟨_,.tup tk hd,ask_tup nd e1 e2 hx.2 hl rl⟩
 | _=>cases hx.1
theorem no_mods{b:Bool}{d:V}{h:Heap}{a:Addr}(ns:NoSys w h)(r:Rb w N b h (.ref a) d):(a==sysModules)=false:=by
 obtain⟨as,r,_⟩:=r
 refine beq_eq_false_iff_ne.mpr fun q=>?_
 subst q
 exact ns _ _ r
theorem lim1(hu:A.units + 71 < cLine):A.units + 1 + 70 < cLine:=(Nat.add_assoc _ 1 70).symm▸hu
theorem op_subD{value slice:PySem.Expr}{ps:List (V × V)}{k z:V}{o i:Value}{Q:Value→Shared→Prop}(hz:findK k ps=some (some z))(r1:Rb w N true s.heap o (.dict ps))(r2:Rb w N false s.heap i k)
  (hu:A.units + 71 < cLine) (q:∀ v tk,Rb w N false s.heap v z→Q v { s with toks:=tk }):wpAny (model prog w.w) A (subscriptTail value slice o i) Q E s:=by
 obtain⟨a,es,n,ks,ds,rfl,rfl,e,ko,hl,rl,_⟩:=rb_dict_inv r1
 obtain⟨ov,x,y⟩:=asked e ko hl rl hz r2
 obtain⟨u,hu',ru⟩:=optInv y
 refine tail_any (T:="dict") ⟨_,e,rfl⟩ slot_dict_getitem.lookup ?_
 cases x with
 | flat hk hd=>exact wpAny_getItem_of hk hd.mapOf hu' (q _ _ ru)
 | tup tk hd=>
  obtain⟨p,hp,rfl⟩:=Option.map_eq_some_iff.mp hu'
  exact wpAny_getItem_heap (lim1 hu) tk hd hp (q _ _ ru)
theorem op_inD{ps:List (V × V)}{k:V}{f:Option V}{o i:Value}{b c:Bool}{Q:Value→Shared→Prop}(hz:findK k ps=some f)(r1:Rb w N b s.heap i k)(r2:Rb w N c s.heap o (.dict ps))(ns:NoSys w s.heap)
  (hu:A.units + 71 < cLine) (q:∀ tk,Q (.bool f.isSome) { s with toks:=tk }):wpAny (model prog w.w) A (compareOp .In i o) Q E s:=by
 obtain⟨a,es,n,ks,ds,rfl,rfl,e,ko,hl,rl,_⟩:=rb_dict_inv r2
 obtain⟨ov,x,y⟩:=asked e ko hl rl hz r1
 rw[← y.isSome]at q
 cases x with
 | flat hk hd=>exact wpAny_in_of hk (no_mods ns r2) hd.mapOf (q _)
 | tup tk hd=>exact wpAny_in_heap (lim1 hu) tk (no_mods ns r2) hd (by rw[Option.isSome_map]at q;exact q _)
end Mine
end
noncomputable section
open PySem PySem.W PyProof.Rows
namespace Mine
variable{w:Pk}{A:Around}{s:Shared}{N:Addr→Prop}
theorem All2.take{α β:Type}{R:α→β→Prop}{as:List α}{bs:List β}(x:All2 R as bs):∀ n,All2 R (as.take n) (bs.take n):=by
 induction x with
 | nil=>intro n;simp;exact .nil
 | cons a _ ih=>intro n;cases n with
  | zero=>exact .nil
  | succ n=>exact .cons a (ih n)
theorem All2.drop{α β:Type}{R:α→β→Prop}{as:List α}{bs:List β}(x:All2 R as bs):∀ n,All2 R (as.drop n) (bs.drop n):=by
 induction x with
 | nil=>intro n;simp;exact .nil
 | cons a x ih=>intro n;cases n with
  | zero=>exact .cons a x
  | succ n=>exact ih n
theorem All2.rev{α β:Type}{R:α→β→Prop}{as:List α}{bs:List β}(x:All2 R as bs):All2 R as.reverse bs.reverse:=by
 induction x with
 | nil=>exact .nil
 | cons a _ ih=>rw[List.reverse_cons,List.reverse_cons];exact ih.append (.cons a .nil)
noncomputable def PartIs(w:Pk)(N:Addr→Prop)(h:Heap)(v:Value):Option V→Prop
 | none=>v=.none
 | some d=>Rb w N false h v d
theorem PartIs.keeps{h h':Heap}(k:Kp h h'){v:Value}{o:Option V}(x:PartIs w N h v o):PartIs w N h' v o:=by
 cases o with
 | none=>exact x
 | some d=>exact Rb.keeps k x
theorem slice_go{value slice:PySem.Expr}{xs zs:List V}{a:Addr}{vs ws:List Value}{n:Nat}{vl vu vt:Value}{l u st:Option Int}{Q:Value→Shared→Prop}(e:s.heap.get? a=some (lst vs.toArray n))(q1:RbL w N false s.heap vs xs)(hn:xs.length≤1000000)(L:Live N s.heap)
  (p1:IsPart vl l) (p2:IsPart vu u) (p3:IsPart vt st) (h0:st≠some 0) (pk:slicePick vs.toArray l u st=ws.toArray) (q2:RbL w N false s.heap ws zs) (out:Out w s N false (.list zs) false Q):
  wpAny (model prog w.w) A (subscriptTail value slice (.ref a) (.ref s.heap.objs.size)) Q E { s with heap:=s.heap.push { cls:=.type "slice",data:=.fields #[vl,vu,vt] } }:=by
 have hl:=isList_of e
 refine tail_any (s:={ s with heap:=s.heap.push { cls:=.type "slice",data:=.fields #[vl,vu,vt] } }) (Heap.IsList.typeIs (s:={ s with heap:=s.heap.push _ }) (hl.push _)) slot_list_getitem.lookup
  (wpAny_getItem_list_slice (hl.push _) (Heap.IsSliceOf.new ..) p1 p2 p3 h0 ?_ (by rw[List.size_toArray,q1.length];exact Nat.le_trans hn (by decide)))
 rw[pk]
 exact new_lst (s:=s) L out (kp_push _ _) (RbL.keeps (kp_push _ _) q2)
theorem slice_tup{value slice:PySem.Expr}{xs:List V}{c:Nat}{o:Value}{t:Tok}{Q:Value→Shared→Prop}(h0:1≤c)(h1:c≤xs.length)(hn:xs.length≤1000000)
  (r:Rb w N true s.heap o (.tuple xs)) (out:Out w s N false (.tuple (xs.drop c)) false Q):
  wpAny (model prog w.w) A (subscriptTail value slice o (.ref s.heap.objs.size)) Q E { s with heap:=s.heap.push { cls:=.type "slice",data:=.fields #[.int c t,.none,.none] } }:=by
 obtain⟨a,vs,n,rfl,e,q1⟩:=rb_tup_inv r
 have ln:vs.toArray.size=xs.length:=q1.length
 have ht:IsTup (s.heap.push { cls:=.type "slice",data:=.fields #[.int c t,.none,.none] }) a vs.toArray:=(isTup_of e).keeps fun _ _ e=>Heap.get?_push_of_some _ e
 refine tail_any (s:={ s with heap:=s.heap.push { cls:=.type "slice",data:=.fields #[.int c t,.none,.none] } }) ht.typeIs slot_tuple_getitem.lookup
  (getItem_tuple_from ht (a:=c) (Heap.IsSliceOf.new ..) h0 (by rw[ln];exact h1) ?_ (by rw[ln];exact Nat.le_trans hn (by decide)))
 exact new_tpl (s:=s) out (kp_push _ _) (RbL.keeps (kp_push _ _) (q1.drop _))
theorem op_slice{value slice:PySem.Expr}{x z:V}{lo hi:Option V}{o vl vu:Value}{Q:Value→Shared→Prop}(hz:SliceR x lo hi z)(L:Live N s.heap)
  (r:Rb w N true s.heap o x) (pl:PartIs w N s.heap vl lo) (pu:PartIs w N s.heap vu hi) (out:Out w s N false z false Q):
  wpAny (model prog w.w) A (subscriptTail value slice o (.ref s.heap.objs.size)) Q E { s with heap:=s.heap.push { cls:=.type "slice",data:=.fields #[vl,vu,.none] } }:=by
 cases hz with
 | @pre xs b h=>
  obtain⟨a,vs,n,rfl,e,q1,_⟩:=rb_lst_inv r
  obtain⟨t,rfl⟩:=rb_int_inv pu
  cases pl
  refine slice_go e q1 h L .none (.int _ _) .none nofun (slicePick_plain _ _ _) ?_ out
  have ln:vs.toArray.size=xs.length:=q1.length
  show RbL w N false s.heap (vs.take (clipAt vs.toArray.size b - 0)) _
  rw[ln]
  exact q1.take _
 | @suf xs a' h=>
  obtain⟨a,vs,n,rfl,e,q1,_⟩:=rb_lst_inv r
  obtain⟨t,rfl⟩:=rb_int_inv pl
  cases pu
  refine slice_go e q1 h L (.int _ _) .none .none nofun (slicePick_plain _ _ _) ?_ out
  have ln:vs.toArray.size=xs.length:=q1.length
  show RbL w N false s.heap ((vs.drop (clipAt vs.toArray.size a')).take (vs.toArray.size - clipAt vs.toArray.size a')) _
  rw[List.take_of_length_le (by rw[List.length_drop];exact Nat.le_refl _),ln]
  exact q1.drop _
 | tup h0 h1 h=>
  obtain⟨t,rfl⟩:=rb_int_inv pl
  cases pu
  exact slice_tup h0 h1 h r out
theorem rev_pick(xs:Array Value):∀ k,k≤xs.size→((List.range k).map fun (j:Nat)=>((xs.size:Int) - 1 + -1 * (j:Int)).toNat).filterMap (xs[·]?)=(xs.toList.reverse).take k:=by
 intro k
 induction k with
 | zero=>intro _;rfl
 | succ k ih=>
  intro hk
  have e:((xs.size:Int) - 1 + -1 * (k:Int)).toNat=xs.size - 1 - k:=by omega
  have e2:xs.toList.reverse[k]?=xs[xs.size - 1 - k]?:=(List.getElem?_reverse hk).trans Array.getElem?_toList
  rw[List.range_succ,List.map_append,List.filterMap_append,ih (Nat.le_of_succ_le hk),List.take_add_one,e2,List.map_singleton,e,List.filterMap_cons]
  cases xs[xs.size - 1 - k]? <;> rfl
theorem slicePick_rev(vs:List Value):slicePick vs.toArray none none (some (-1))=vs.reverse.toArray:=by
 have e2:(if (vs.toArray.size:Int) - 1 > -1 then ((vs.toArray.size:Int) - 1 - -1 - -1 - 1) / (-(-1)) else 0)=vs.toArray.size:=by
  by_cases h:(vs.toArray.size:Int) - 1 > -1
  ·rw[if_pos h,show(-(-1:Int))=1 from rfl,Int.ediv_one];omega
  ·rw[if_neg h];omega
 show(((List.range (if (vs.toArray.size:Int) - 1 > -1 then ((vs.toArray.size:Int) - 1 - -1 - -1 - 1) / (-(-1)) else 0).toNat).map fun (j:Nat)=>((vs.toArray.size:Int) - 1 + -1 * (j:Int)).toNat).filterMap (vs.toArray[·]?)).toArray=_
 rw[e2,Int.toNat_natCast,rev_pick _ _ (Nat.le_refl _),List.take_of_length_le (by rw[List.length_reverse];exact Nat.le_refl _)]
theorem op_rev{value slice:PySem.Expr}{xs:List V}{o:Value}{t:Tok}{Q:Value→Shared→Prop}(hn:xs.length≤1000000)(L:Live N s.heap)
  (r:Rb w N false s.heap o (.list xs)) (out:Out w s N false (.list xs.reverse) false Q):
  wpAny (model prog w.w) A (subscriptTail value slice o (.ref s.heap.objs.size)) Q E { s with heap:=s.heap.push { cls:=.type "slice",data:=.fields #[.none,.none,.int (-1) t] } }:=by
 obtain⟨a,vs,n,rfl,e,q1,_⟩:=rb_lst_inv r
 exact slice_go e q1 hn L .none .none (.int _ _) (by decide) (slicePick_rev vs) q1.rev out
noncomputable def biVal:Bi→Value
 | .len=>.builtin "len" | .abs=>.builtin "abs" | .max=>.builtin "max" | .maxL=>.builtin "max" | .min=>.builtin "min" | .list=>.type "list" | .tuple=>.type "tuple" | .sorted=>.builtin "sorted"
theorem best_max(xs:Array (Int × Tok)):∀ k,numAt xs (argBest (fun i j=>decide (numAt xs i > numAt xs j)) k)=((List.range k).map fun i=>numAt xs (i + 1)).foldl (fun a b=>if a < b then b else a) (numAt xs 0):=by
 intro k
 induction k with
 | zero=>rfl
 | succ k ih=>
  rw[List.range_succ,List.map_append,List.foldl_append,← ih]
  generalize hb:argBest (fun i j=>decide (numAt xs i > numAt xs j)) k=m
  show numAt xs (if decide (numAt xs (k + 1) > numAt xs (argBest (fun i j=>decide (numAt xs i > numAt xs j)) k))=true then k + 1 else argBest (fun i j=>decide (numAt xs i > numAt xs j)) k)=if numAt xs m < numAt xs (k + 1) then numAt xs (k + 1) else numAt xs m
  rw[hb]
  by_cases h:numAt xs m < numAt xs (k + 1)
  ·rw[if_pos h,if_pos (decide_eq_true h)]
  ·rw[if_neg h,if_neg fun q=>h (of_decide_eq_true q)]
theorem ints_items{h:Heap}{vs:List Value}:∀ {is:List Int},RbL w N false h vs (is.map .int)→∃ xs:List (Int × Tok),vs=xs.map (fun p=>.int p.1 p.2)∧xs.map (·.1)=is:=by
 induction vs with
 | nil=>
  intro is q
  cases is with
  | nil=>exact⟨[],rfl,rfl⟩
  | cons=>cases q
 | cons v vs ih=>
  intro is q
  cases is with
  | nil=>cases q
  | cons i is=>
   cases q with
   | cons r q=>
    obtain⟨xs,e1,e2⟩:=ih q
    obtain⟨t,rfl⟩:=rb_int_inv r
    exact⟨(i,t)::xs,congrArg (_ :: ·) e1,congrArg (i :: ·) e2⟩
theorem one_of{α β:Type}{R:α→β→Prop}{as:List α}{b:β}(x:All2 R as [b]):∃ a,as=[a]∧R a b:=by
 cases x with
 | cons r q=>cases q;exact⟨_,rfl,r⟩
theorem two_of{α β:Type}{R:α→β→Prop}{as:List α}{b c:β}(x:All2 R as [b,c]):∃ a a',as=[a,a']∧R a b∧R a' c:=by
 cases x with
 | cons r q=>obtain⟨_,rfl,r'⟩:=one_of q;exact⟨_,_,rfl,r,r'⟩
theorem nums_tail(p:Int × Tok)(ps:List (Int × Tok)):((List.range ((p::ps).toArray.size - 1)).map fun i=>numAt (p::ps).toArray (i + 1))=ps.map (·.1):=by
 apply List.ext_getElem?
 intro i
 simp only[List.size_toArray,List.length_cons,Nat.add_sub_cancel,List.getElem?_map,numAt]
 by_cases hi:i < ps.length
 ·rw[List.getElem?_range hi];simp [hi]
 ·rw[List.getElem?_eq_none (by simp;omega),List.getElem?_eq_none (by omega)];rfl
theorem short_arr{h:Heap}{vs:List Value}{ds:List V}(q:RbL w N false h vs ds)(l:ds.length≤1000000){n:Nat}(hn:1000000≤n):vs.toArray.size≤n:=by
 rw[List.size_toArray,q.length];exact Nat.le_trans l hn
theorem short63{h:Heap}{vs:List Value}{ds:List V}(q:RbL w N false h vs ds)(l:ds.length≤1000000):(vs.toArray.size:Int) < 2 ^ 63:=Int.lt_of_le_of_lt (Int.ofNat_le.mpr (short_arr q l (Nat.le_refl _))) (by decide)
section
variable{vs:List Value}{fr:Bool}{Q:Value→Shared→Prop}
theorem bi_maxL{a:Int}{r:List Int}(hh:A.handled=none)
  (rr:RbL w N true s.heap vs [.list (.int a::r.map .int)]) (out:Out w s N false (.int (r.foldl (fun a b=>if a < b then b else a) a)) fr Q):wpAny (model prog w.w) A (call (.builtin "max") vs) Q E s:=by
 obtain⟨_,rfl,rb⟩:=one_of rr
 obtain⟨l,vs,n,rfl,e,q1,_⟩:=rb_lst_inv rb
 obtain⟨ps,rfl,hps⟩:=ints_items (is:=a::r) q1
 cases ps with
 | nil=>cases hps
 | cons p ps=>
  cases hps
  have hl:s.heap.IsList l (intItems (p::ps).toArray):=by
   have:=isList_of e
   rw[← List.map_toArray]at this
   exact this
  refine max_intList hh hl (Nat.succ_pos _) fun v h' tk hv k=>?_
  obtain⟨t,rfl⟩:=intItems_at hv
  rw[best_max,nums_tail]
  exact out _ _ _ k (rb_int _ _ _ _) fun _ c=>nomatch c
theorem bi_list{l:Addr}{ws:List Value}{ds:List V}{n:Nat}{T:String}(hT:T = "list"∨T = "tuple")(e:s.heap.get? l=some { cls:=.type T,data:=.seq ws.toArray n })(q1:RbL w N false s.heap ws ds)(h:ds.length≤1000000)(L:Live N s.heap)
  (out:Out w s N false (.list ds) fr Q):wpAny (model prog w.w) A (call (.type "list") [.ref l]) Q E s:=
 call_list_seq l hT e rfl rfl (fun h' c' k g=>out _ _ _ k (Rb.lst false (fun _=>L.fresh) g (RbL.keeps k q1)) fun _ _=>⟨_,rfl,none_size _⟩) (short_arr q1 h (by decide))
theorem op_bi{f:Bi}{xs:List V}{z:V}(hz:BiR f xs z)(ns:f ≠ .sorted)(hh:A.handled=none)(L:Live N s.heap)
  (rr:RbL w N true s.heap vs xs) (out:Out w s N false z fr Q):wpAny (model prog w.w) A (call (biVal f) vs) Q E s:=by
 cases hz with
 | maxL=>exact bi_maxL hh rr out
 | lenL h=>
  obtain⟨_,rfl,r⟩:=one_of rr
  obtain⟨a,vs,n,rfl,e,q1,_⟩:=rb_lst_inv r
  refine Calls.call_len_list (isList_of e) (short63 q1 h) (out_flat out ?_ rfl)
  rw[List.size_toArray,q1.length];exact rb_int _ _ _ _
 | lenT h=>
  obtain⟨_,rfl,r⟩:=one_of rr
  obtain⟨a,vs,n,rfl,e,q1⟩:=rb_tup_inv r
  refine len_tuple (isTup_of e) (short63 q1 h) (out_flat out ?_ rfl)
  rw[List.size_toArray,q1.length];exact rb_int _ _ _ _
 | @abs i=>
  obtain⟨_,rfl,r⟩:=one_of rr
  obtain⟨t,rfl⟩:=rb_int_inv r
  refine call_abs_int fun u tk=>out_flat out ?_ rfl
  have:(if i < 0 then -i else i)=(i.natAbs:Int):=by split <;> omega
  rw[this];exact rb_int _ _ _ _
 | max=>
  obtain⟨_,_,rfl,r,r2⟩:=two_of rr
  obtain⟨t,rfl⟩:=rb_int_inv r
  obtain⟨u,rfl⟩:=rb_int_inv r2
  refine max_two_ints hh fun h' tk k=>out _ _ _ k ?_ fun _ c=>nomatch c
  split
  ·exact rb_int _ _ _ _
  ·exact rb_int _ _ _ _
 | min=>
  obtain⟨_,_,rfl,r,r2⟩:=two_of rr
  obtain⟨t,rfl⟩:=rb_int_inv r
  obtain⟨u,rfl⟩:=rb_int_inv r2
  refine min_two_ints hh fun h' tk k=>out _ _ _ k ?_ fun _ c=>nomatch c
  split
  ·exact rb_int _ _ _ _
  ·exact rb_int _ _ _ _
 | listL h=>
  obtain⟨_,rfl,r⟩:=one_of rr
  obtain⟨a,vs,n,rfl,e,q1,_⟩:=rb_lst_inv r
  exact bi_list (.inl rfl) e q1 h L out
 | listT h=>
  obtain⟨_,rfl,r⟩:=one_of rr
  obtain⟨a,vs,n,rfl,e,q1⟩:=rb_tup_inv r
  exact bi_list (.inr rfl) e q1 h L out
 | tup h=>
  obtain⟨_,rfl,r⟩:=one_of rr
  obtain⟨a,vs,n,rfl,e,q1,_⟩:=rb_lst_inv r
  exact call_tuple_list (isList_of e) (fun h' k=>new_tpl (s:=s) out k (RbL.keeps k q1)) (short_arr q1 h (by decide))
 | sortS=>exact absurd rfl ns
 | sortI _ _=>exact absurd rfl ns
end
theorem insInt_perm(x:Int)(l:List Int):(insInt x l).Perm (x::l):=by
 induction l with
 | nil=>exact .refl _
 | cons y ys ih=>
  unfold insInt
  by_cases h:x < y
  ·rw[if_pos h]
  ·rw[if_neg h];exact(ih.cons y).trans (.swap x y ys)
theorem sortInts_perm(l:List Int):(sortInts l).Perm l:=by
 induction l with
 | nil=>exact .refl _
 | cons x xs ih=>exact(insInt_perm x (sortInts xs)).trans (ih.cons x)
theorem insInt_sorted(x:Int)(l:List Int)(h:l.Pairwise (· ≤ ·)):(insInt x l).Pairwise (· ≤ ·):=by
 induction l with
 | nil=>exact List.pairwise_singleton _ _
 | cons y ys ih=>
  unfold insInt
  have h2:=List.pairwise_cons.mp h
  by_cases q:x < y
  ·rw[if_pos q]
   refine List.pairwise_cons.mpr ⟨fun z m=>?_,h⟩
   rcases List.mem_cons.mp m with rfl | m
   ·exact Int.le_of_lt q
   ·exact Int.le_trans (Int.le_of_lt q) (h2.1 z m)
  ·rw[if_neg q]
   refine List.pairwise_cons.mpr ⟨fun z m=>?_,ih h2.2⟩
   rcases List.mem_cons.mp ((insInt_perm x ys).mem_iff.mp m) with rfl | m
   ·exact Int.not_lt.mp q
   ·exact h2.1 z m
theorem sortInts_sorted(l:List Int):(sortInts l).Pairwise (· ≤ ·):=by
 induction l with
 | nil=>exact .nil
 | cons x xs ih=>exact insInt_sorted x _ ih
theorem rbl_of_ints{h:Heap}{vs:List Value}{ns:List Int}(x:IntsAre vs ns):RbL w N false h vs (ns.map .int):=by
 induction x with
 | nil=>exact .nil
 | cons n t _ ih=>exact .cons (rb_int _ _ _ _) ih
theorem intsAre_of{vs:List Value}:∀ {ns:List Int},vs.length=ns.length→(∀ (j:Nat) (v:Value),vs[j]?=some v→∃ (k:Int) (t:Tok),ns[j]?=some k∧v=.int k t)→IntsAre vs ns:=by
 induction vs with
 | nil=>intro ns h f;cases ns with | nil=>exact .nil | cons=>cases h
 | cons v vs ih=>
  intro ns h f
  cases ns with
  | nil=>cases h
  | cons n ns=>
   obtain⟨k,t,e,rfl⟩:=f 0 v rfl
   cases e
   exact .cons _ t (ih (Nat.succ.inj h) fun j u hj=>f (j + 1) u hj)
theorem sorted_int{a:Addr}{es:List DictEntry}{n:Nat}{is:List Int}{fr:Bool}{Q:Value→Shared→Prop}(e:s.heap.get? a=some (dct es.toArray n))(x:All2 (fun (e:DictEntry) (i:Int)=>e.hash=hashInt i∧∃ t,e.key=.int i t) es is)(nd:is.Nodup)
  (hsys:(a==sysModules)=false) (h64:is.length < 64) (hh:A.handled=none) (L:Live N s.heap) (out:Out w s N false (.list ((sortInts is).map .int)) fr Q):wpAny (model prog w.w) A (call (.builtin "sorted") [.ref a]) Q E s:=by
 have hl:=x.length
 have hD:=dictOf_int (w:=w) e x nd
 obtain⟨ep,hat⟩:=hD.dictAt
 have hz:(is.zip (es.map (·.val))).length=is.length:=by rw[List.length_zip,List.length_map];omega
 refine Calls.call_function_entry kind_sorted plain_sorted entry_sorted (args_sorted1 _) ?_
 unfold Builtin.«sorted»
 refine wpAny_bind (m:=checkCount "sorted" 1 1 _) (wpAny_pure ?_)
 refine wpAny_bind (kdu_collect (kdl_dict (knd:=intKind prog w.w) (kvs:=is.zip (es.map (·.val))) (ep:=ep) hsys) hh hat (by rw[hz];exact Nat.le_trans (Nat.le_of_lt h64) (by decide)) fun h' tk acc hk hacc=>?_)
 have hsz:acc.toList.length=is.length:=by rw[Array.length_toList,hacc.1,hz]
 have hI:IntsAre acc.toList is:=intsAre_of hsz fun j v hj=>by
  obtain⟨k,y,h1,h2⟩:=hacc.2 j v (by rw[← Array.getElem?_toList];exact hj)
  obtain⟨t,rfl⟩:=Value.isInt_shape h2
  refine⟨k,t,?_,rfl⟩
  rw[List.getElem?_zip_eq_some]at h1
  exact h1.1
 refine wpAny_bind (wpAny_newList ?_ (by rw[hsz];exact Nat.le_trans (Nat.le_of_lt h64) (by decide)))
 have hoL:(h'.push (seqObj "list" acc.toList.toArray 0)).get? h'.objs.size=some (seqObj "list" acc.toList.toArray 0):=Heap.get?_push_size _ rfl
 refine wpAny_bind (wpAny_holding (wpAny_call_entry slot_list_sort ⟨_,hoL,rfl⟩ entry_list_sort (list_sort_tree hoL hI (by rw[hsz];exact h64) fun o ns' a1 a2 a3=>⟨_,rfl,?_⟩) (args_list_sort _)))
 refine wpAny_pure ⟨_,rfl,?_⟩
 have en:ns'=sortInts is:=List.Perm.eq_of_pairwise (le:=(· ≤ ·)) (fun a b _ _ h1 h2=>by omega) a3 (sortInts_sorted is) (a2.trans (sortInts_perm is).symm)
 subst en
 obtain⟨e2,he2⟩:=sortedHeap_at (h:=h'.push (seqObj "list" acc.toList.toArray 0)) (a:=h'.objs.size) (vs:=acc.toList) (out:=o) hoL
 have kp:Kp s.heap (sortedHeap (h'.push (seqObj "list" acc.toList.toArray 0)) h'.objs.size acc.toList o):=fun b ob eb=>by
  have hb:=hk _ _ eb
  have lt:=Heap.lt_size hb
  rw[sortedHeap_old (Nat.ne_of_lt lt) (by rw[Heap.size_push];exact Nat.lt_succ_of_lt lt)]
  exact Heap.get?_push_of_some _ hb
 have nn:s.heap.get? h'.objs.size=none:=by
  cases q:s.heap.get? h'.objs.size with
  | none=>rfl
  | some ob=>exact absurd (Heap.lt_size (hk _ _ q)) (Nat.lt_irrefl _)
 exact out (.ref h'.objs.size) _ tk kp (Rb.lst false (fun _ q=>by obtain⟨ob,eo⟩:=L _ q;rw[nn]at eo;cases eo) (by simpa using he2) (rbl_of_ints a1)) fun _ _=>⟨_,rfl,nn⟩
theorem sorted_str1{a:Addr}{es:List DictEntry}{n:Nat}{x0:Str}{fr:Bool}{Q:Value→Shared→Prop}(e:s.heap.get? a=some (dct es.toArray n))(x:All2 (fun (e:DictEntry) (i:Str)=>e.hash=hashStr w.w i∧∃ t,e.key=.str i t) es [x0])
  (hsys:(a==sysModules)=false) (hh:A.handled=none) (L:Live N s.heap) (out:Out w s N false (.list [.str x0]) fr Q):wpAny (model prog w.w) A (call (.builtin "sorted") [.ref a]) Q E s:=by
 have hl:=x.length
 have hD:=dictOf_str (w:=w) e x (by simp)
 obtain⟨ep,hat⟩:=hD.dictAt
 have hz:([x0].zip (es.map (·.val))).length=1:=by rw[List.length_zip,List.length_map,hl];rfl
 refine Calls.call_function_entry kind_sorted plain_sorted entry_sorted (args_sorted1 _) ?_
 unfold Builtin.«sorted»
 refine wpAny_bind (m:=checkCount "sorted" 1 1 _) (wpAny_pure ?_)
 refine wpAny_bind (kdu_collect (kdl_dict (knd:=PySem.strKind prog w.w) (kvs:=[x0].zip (es.map (·.val))) (ep:=ep) hsys) hh hat (by rw[hz];decide) fun h' tk acc hk hacc=>?_)
 have hsz:acc.toList.length=1:=by rw[Array.length_toList,hacc.1,hz]
 obtain⟨v0,hv0⟩:∃ v,acc.toList=[v]:=List.length_eq_one_iff.mp hsz
 obtain⟨t0,rfl⟩:∃ t,v0=.str x0 t:=by
  obtain⟨k,y,h1,h2⟩:=hacc.2 0 v0 (by rw[← Array.getElem?_toList,hv0];rfl)
  obtain⟨t,rfl⟩:=Value.isStrOf_shape h2
  rw[List.getElem?_zip_eq_some]at h1
  have:x0=k:=by simpa using h1.1
  exact⟨t,by rw[this]⟩
 have hI:StrsAre acc.toList [x0]:=by rw[hv0];exact .cons x0 t0 .nil
 refine wpAny_bind (wpAny_newList ?_ (by rw[hsz];decide))
 have hoL:(h'.push (seqObj "list" acc.toList.toArray 0)).get? h'.objs.size=some (seqObj "list" acc.toList.toArray 0):=Heap.get?_push_size _ rfl
 refine wpAny_bind (wpAny_holding (wpAny_call_entry slot_list_sort ⟨_,hoL,rfl⟩ entry_list_sort (list_sort_treeK strKind_oneLt hoL hI.keysOf (fun v₁ v₂ rest q=>by rw[q]at hsz;simp at hsz) (by rw[hsz];decide) fun st' hp hs=>⟨_,rfl,?_⟩) (args_list_sort _)))
 refine wpAny_pure ⟨_,rfl,?_⟩
 obtain⟨ss',a1,a2,_⟩:=sorted_out_str hI hp hs
 have en:ss'=[x0]:=List.perm_singleton.mp a2
 subst en
 generalize (arrOf st').map (·.2)=o at a1 ⊢
 obtain⟨e2,he2⟩:=sortedHeap_at (h:=h'.push (seqObj "list" acc.toList.toArray 0)) (a:=h'.objs.size) (vs:=acc.toList) (out:=o) hoL
 have kp:Kp s.heap (sortedHeap (h'.push (seqObj "list" acc.toList.toArray 0)) h'.objs.size acc.toList o):=fun b ob eb=>by
  have hb:=hk _ _ eb
  have lt:=Heap.lt_size hb
  rw[sortedHeap_old (Nat.ne_of_lt lt) (by rw[Heap.size_push];exact Nat.lt_succ_of_lt lt)]
  exact Heap.get?_push_of_some _ hb
 have nn:s.heap.get? h'.objs.size=none:=by
  cases q:s.heap.get? h'.objs.size with
  | none=>rfl
  | some ob=>exact absurd (Heap.lt_size (hk _ _ q)) (Nat.lt_irrefl _)
 exact out (.ref h'.objs.size) _ tk kp (Rb.lst false (fun _ q=>by obtain⟨ob,eo⟩:=L _ q;rw[nn]at eo;cases eo) (by simpa using he2) (by obtain⟨t,h⟩:∃ t,o.toList=[.str x0 t]:=(by cases h:o.toList with | nil=>(rw[h]at a1;cases a1) | cons v r=>(rw[h]at a1;cases a1 with | cons _ t q=>(cases q;exact⟨t,rfl⟩)));rw[h];exact .cons (rb_str _ _ _ _) .nil)) fun _ _=>⟨_,rfl,nn⟩
theorem map_inj{f:Int→V}(inj:∀ a b,f a=f b→a=b){a b:List Int}(h:a.map f=b.map f):a=b:=by
 induction a generalizing b with
 | nil=>cases b with | nil=>rfl | cons=>cases h
 | cons x a ih=>cases b with
  | nil=>cases h
  | cons y b=>
   have h:=List.cons.inj h
   rw[inj _ _ h.1,ih h.2]
theorem op_sorted{ps:List (V × V)}{v:Value}{z:V}{fr:Bool}{Q:Value→Shared→Prop}(hz:BiR .sorted [.dict ps] z)(hh:A.handled=none)(ns:NoSys w s.heap)(L:Live N s.heap)(r:Rb w N true s.heap v (.dict ps))
  (out:Out w s N false z fr Q):wpAny (model prog w.w) A (call (.builtin "sorted") [v]) Q E s:=by
 obtain⟨a,es,n,ks,ds,rfl,e0,e,ko,hl,rl,_⟩:=rb_dict_inv r
 have hsys:=no_mods ns r
 have kk:keysOf ps=ks:=by rw[e0];exact fst_zip hl
 cases hz with
 | @sortS y u=>
  have kk:[PyData.str y]=ks:=kk
  obtain⟨is,hi,x,nd⟩:=ko_str (i:=y) ko (.inl (kk▸.head _))
  have e2:[PyData.str y]=is.map .str:=kk.trans hi
  have:is=[y]:=by
   cases is with
   | nil=>cases e2
   | cons b is=>
    have e2:=List.cons.inj e2
    rw[PyData.str.inj e2.1,List.map_eq_nil_iff.mp e2.2.symm]
  subst this
  exact sorted_str1 e x hsys hh L out
 | @sortI _ is hk h64=>
  have kk:=kk.symm.trans hk
  have kin:Kin (.int (is.headD 0)) ks:=by
   rw[kk]
   cases is with
   | nil=>exact .inr fun _ m=>nomatch m
   | cons i is=>exact .inl (.head _)
  obtain⟨is2,hi2,x,nd⟩:=ko_int ko kin
  cases map_inj (fun _ _ q=>PyData.int.inj q) (kk.symm.trans hi2)
  exact sorted_int e x nd hsys h64 hh L out
end Mine
end
noncomputable section
open PySem PySem.W PyProof.Rows
namespace Mine
structure Env0(env:Env)(c:Cx):Prop where
 kind:env.scope.kind=.function
 glob:env.globals=mainGlobals
 blt:env.builtins=builtinsNs
 loc:∀ x,c.names.lookup x=some .local→env.kindOf x=some .local
 cel:∀ x,(c.names.lookup x=some .cell∨c.names.lookup x=some .free)→env.kindOf x=some .cell∨env.kindOf x=some .free
 has:∀ x,(c.names.lookup x=some .cell∨c.names.lookup x=some .free)→∃ a,env.cells.lookup x=some a
 imp:∀ x,c.names.lookup x=some .globalImplicit→env.kindOf x=some .globalImplicit
 plain:∀ x k,c.names.lookup x=some k→(x==("__debug__":Str))=false∧(x==("__classdict__":Str))=false
noncomputable def Look(env:Env)(h:Heap)(x:Str)(v:Value):Prop:=
 (env.kindOf x=some .local∧∃ m,h.Ns env.locals m∧m x=some v)∨((env.kindOf x=some .cell∨env.kindOf x=some .free)∧∃ a,env.cells.lookup x=some a∧h.IsCell a (some v))
theorem Look.keeps{env:Env}{h h':Heap}{x:Str}{v:Value}(k:Kp h h')(l:Look env h x v):Look env h' x v:=by
 rcases l with ⟨a,m,n,e⟩ | ⟨a,c,e,i⟩
 ·exact .inl ⟨a,m,n.keeps k,e⟩
 ·exact .inr ⟨a,c,e,i.keeps k⟩
section
variable(w:Pk)
noncomputable def SlotOk(env:Env)(N:Addr→Prop)(h:Heap)(x:Str):Sl→Prop
 | .un=>True
 | .va d=>∃ v,Look env h x v∧Rb w N false h v d
 | .ow d=>∃ a,Look env h x (.ref a)∧Rb w N true h (.ref a) d
noncomputable def InvE(c:Cx)(env:Env)(ρ:Rho)(N:Addr→Prop)(h:Heap):Prop:=∀ x i sl,c.slot x=some i→ρ[i]?=some sl→SlotOk w env N h x sl
structure GI(fns:List Str)(lits:List (Str × V))(N:Addr→Prop)(h:Heap):Prop where
 base:Kp w.base h
 g:h.Ns mainGlobals w.fn
 b:h.Ns builtinsNs w.bb
 lit:∀ x d,lits.lookup x=some d→∃ v,w.fn x=some v∧Rb w N false h v d
 fn:∀ f i,idxS f 0 fns=some i→∃ a o fd,w.fn f=some (.ref a)∧h.get? a=some o∧o.data=.func fd
 bi:∀ x n b,idxS x 0 fns=none→biOf x n=some b→w.fn x=none∧w.bb x=some (biVal b)
 rg:w.fn s_range=none∧w.bb s_range=some (.type "range")
 en:w.fn s_enumerate=none∧w.bb s_enumerate=some (.type "enumerate")
 rv:w.fn s_reversed=none∧w.bb s_reversed=some (.type "reversed")
 sm:∃ es n e m o,h.get? sysModules=some (dct (List.toArray es) n)∧e∈es∧e.val=.ref m∧h.get? m=some o∧o.cls=.type "module"
end
variable{w:Pk}{A:Around}{s:Shared}{N:Addr→Prop}
theorem SlotOk.keeps{env:Env}{h h':Heap}{x:Str}{sl:Sl}(k:Kp h h')(q:SlotOk w env N h x sl):SlotOk w env N h' x sl:=by
 cases sl with
 | un=>trivial
 | va d=>exact let ⟨v,l,r⟩:=q;⟨v,l.keeps k,r.keeps k⟩
 | ow d=>exact let ⟨v,l,r⟩:=q;⟨v,l.keeps k,r.keeps k⟩
theorem InvE.keeps{c:Cx}{env:Env}{ρ:Rho}{h h':Heap}(k:Kp h h')(q:InvE w c env ρ N h):InvE w c env ρ N h':=fun x i sl a b=>(q x i sl a b).keeps k
theorem GI.keeps{fns:List Str}{lits:List (Str × V)}{h h':Heap}(k:Kp h h')(q:GI w fns lits N h):GI w fns lits N h':=
 ⟨q.base.trans k,q.g.keeps k,q.b.keeps k,fun x d e=>let ⟨v,a,r⟩:=q.lit x d e;⟨v,a,r.keeps k⟩,fun f i e=>let ⟨a,o,fd,x,y,z⟩:=q.fn f i e;⟨a,o,fd,x,k _ _ y,z⟩,q.bi,q.rg,q.en,q.rv,let ⟨es,n,e,m,o,h1,h2,h3,h4,h5⟩:=q.sm;⟨es,n,e,m,o,k _ _ h1,h2,h3,k _ _ h4,h5⟩⟩
theorem GI.noSys{fns:List Str}{lits:List (Str × V)}{h:Heap}(q:GI w fns lits N h):NoSys w h:=let ⟨es,n,e,m,o,h1,h2,h3,h4,h5⟩:=q.sm;noSys_of h1 h2 h3 h4 h5
structure Cond(w:Pk)(c:Cx)(env:Env)(ρ:Rho)(N:Addr→Prop)(h:Heap):Prop where
 e0:Env0 env c
 inv:InvE w c env ρ N h
 gi:GI w c.fns c.lits N h
 live:Live N h
 len:ρ.length=c.ls.length
 cel:∀ x a,env.cells.lookup x=some a→∃ v,h.IsCell a v
 dis:∀ x y a,env.cells.lookup x=some a→env.cells.lookup y=some a→x=y
theorem Cond.keeps{c:Cx}{env:Env}{ρ:Rho}{h h':Heap}(k:Kp h h')(q:Cond w c env ρ N h):Cond w c env ρ N h':=⟨q.e0,q.inv.keeps k,q.gi.keeps k,q.live.keeps k,q.len,fun x a e=>let ⟨v,i⟩:=q.cel x a e;⟨v,i.keeps k⟩,q.dis⟩
theorem slot_kind{c:Cx}{x:Str}{i:Nat}(h:c.slot x=some i):∃ k,c.names.lookup x=some k∧(k=.local∨k=.cell∨k=.free):=by
 unfold Cx.slot at h
 cases q:c.names.lookup x with
 | none=>rw[q]at h;cases h
 | some k=>
  rw[q]at h
  cases k with
  | «local»=>exact⟨_,rfl,.inl rfl⟩
  | cell=>exact⟨_,rfl,.inr (.inl rfl)⟩
  | free=>exact⟨_,rfl,.inr (.inr rfl)⟩
  | _=>cases h
theorem glob_kind{c:Cx}{x:Str}(h:c.isGlob x=true):c.names.lookup x=some .globalImplicit:=by
 unfold Cx.isGlob at h
 cases q:c.names.lookup x with
 | none=>rw[q]at h;cases h
 | some k=>
  rw[q]at h
  cases k with
  | globalImplicit=>rfl
  | _=>cases h
theorem ld_look{env:Env}{c:Cx}(e0:Env0 env c){x:Str}{i:Nat}{pos:Pos}{v:Value}{Q:Value→Shared→Prop}(hs:c.slot x=some i)(l:Look env s.heap x v)(q:Q v s):
  wpAny (model prog w.w) A (eval (.Name x pos) env) Q E s:=by
 obtain⟨k,hk,_⟩:=slot_kind hs
 obtain⟨p1,p2⟩:=e0.plain x k hk
 refine wpAny_Name ?_ p1
 rcases l with ⟨a,m,n,e⟩ | ⟨a | a,cl,e,hc⟩
 ·exact wpAny_loadName_local e0.kind a n e q
 ·exact wpAny_loadName_cell e0.kind a e hc q
 ·exact wpAny_loadName_free e0.kind a e hc q p2
theorem ld_global{env:Env}{c:Cx}(e0:Env0 env c){x:Str}{pos:Pos}{v:Value}{Q:Value→Shared→Prop}(hg:c.isGlob x=true)(g:s.heap.Ns mainGlobals w.fn)(b:s.heap.Ns builtinsNs w.bb)
  (l:w.fn x=some v∨w.fn x=none∧w.bb x=some v) (q:Q v s):wpAny (model prog w.w) A (eval (.Name x pos) env) Q E s:=by
 have hk:=glob_kind hg
 obtain⟨p1,_⟩:=e0.plain x _ hk
 refine wpAny_Name ?_ p1
 rw[loadName_read e0.kind (e0.imp x hk)]
 unfold loadGlobal
 rw[e0.glob,e0.blt]
 rcases l with e | ⟨e,e'⟩
 ·exact wpAny_bind (wpAny_nsGet g (by rw[e];exact wpAny_pure q))
 ·refine wpAny_bind (wpAny_nsGet g ?_)
  rw[e]
  exact wpAny_bind (wpAny_nsGet b (by rw[e'];exact wpAny_pure q))
theorem starEach_cons{env:Env}{e:Expr}{es:List Expr}:noStar e=true→starEach (e::es) env=(false,eval e env)::starEach es env:=by
 apply @PySem.Expr.casesOn (fun e=>noStar e=true→starEach (e::es) env=(false,eval e env)::starEach es env) e
 case Starred=>intro _ _ h;exact absurd h Bool.false_ne_true
 all_goals (intros;rfl)
theorem starEach_eq{env:Env}{pos:Pos}{es:List Expr}(h:es.all noStar=true):backTo pos (starEach es env)=es.map fun e=>(false,eval e env):=by
 induction es with
 | nil=>rfl
 | cons e es ih=>
  rw[List.all_cons,Bool.and_eq_true]at h
  rw[starEach_cons h.1]
  exact congrArg ((false,eval e env) :: ·) (ih h.2)
end Mine
end
noncomputable section
open PySem PySem.W PyProof.Rows
namespace Mine
open K (R D DL X Orc Rec TgL)
variable{w:Pk}{A:Around}
theorem Out.after{s:Shared}{N:Addr→Prop}{b fr:Bool}{d:V}{Q:Value→Shared→Prop}{h₁:Heap}{t₁:Nat}(k₁:Kp s.heap h₁)(o:Out w s N b d fr Q):Out w (sx s h₁ t₁) N b d fr Q:=
 fun v h' tk k r f=>o v h' tk (k₁.trans k) r fun a q=>let ⟨x,e,n⟩:=f a q;⟨x,e,by
  cases z:s.heap.get? x with
  | none=>rfl
  | some ob=>have n':h₁.get? x=none:=n;rw[k₁ _ _ z]at n';cases n'⟩
noncomputable def Right(w:Pk)(A:Around)(fns:List Str)(lits:List (Str × V))(fresh:List Str)(f:Str)(xs:List V)(z:V):Prop:=
 ∀ (a:Addr) (fr:Bool) (N:Addr→Prop) (s:Shared) (vs:List Value) (Q:Value→Shared→Prop),
  w.fn f=some (.ref a)→GI w fns lits N s.heap→Live N s.heap→RbL w N false s.heap vs xs→(fr=true→fresh.contains f=true)→Out w s N false z fr Q→
  wpAny (model prog w.w) A (call (.ref a) vs) Q E s
noncomputable def CallOk(w:Pk)(A:Around)(O:Orc)(fns:List Str)(lits:List (Str × V))(fresh:List Str):Prop:=
 ∀ (f:Str) (i:Nat) (xs:List V) (z:V),idxS f 0 fns=some i→O i xs=some z→Right w A fns lits fresh f xs z
section
variable(w:Pk)(A:Around)(c:Cx)
noncomputable abbrev Ends(s:Shared)(N:Addr→Prop)(b fr:Bool)(k:V→R)(z:V)(Q:Value→Shared→Prop):Prop:=∀ x,k x=some z→Out w s N b x fr Q
noncomputable def DOk(b:Bool)(e:PySem.Expr)(d:D):Prop:=∀ (env:Env) (ρ:Rho) (N:Addr→Prop) (s:Shared) (z:V) (k:V→R) (fr:Bool) (Q:Value→Shared→Prop),
 Cond w c env ρ N s.heap→d ρ k=some z→(fr=true→b=false∧∃ m,isFresh m c e=true)→Ends w s N b fr k z Q→wpAny (model prog w.w) A (eval e env) Q E s
noncomputable def TOk(e:PySem.Expr)(d:D):Prop:=∀ (env:Env) (ρ:Rho) (N:Addr→Prop) (s:Shared) (z:V) (k:V→R) (Q:Bool→Shared→Prop),
 Cond w c env ρ N s.heap→d ρ k=some z→(∀ x,k x=some z→∃ t,truthy x=some t)→(∀ x t h' tk,k x=some z→truthy x=some t→Kp s.heap h'→Q t (sx s h' tk))→wpAny (model prog w.w) A (PySem.isTrue e env (eval e env)) Q E s
end
variable{c:Cx}
theorem DOk.go{b:Bool}{e:PySem.Expr}{d:D}(H:DOk w A c b e d){env:Env}{ρ:Rho}{N:Addr→Prop}{s:Shared}{z:V}{k:V→R}{Q:Value→Shared→Prop}
  (C:Cond w c env ρ N s.heap) (h:d ρ k=some z) (f:∀ x v h' tk,k x=some z→Kp s.heap h'→Rb w N b h' v x→Q v (sx s h' tk)):wpAny (model prog w.w) A (eval e env) Q E s:=
 H env ρ N s z k false Q C h (fun q=>nomatch q) fun x hx v h' tk kp r _=>f x v h' tk hx kp r
theorem TOk.go{e:PySem.Expr}{d:D}(H:TOk w A c e d){env:Env}{ρ:Rho}{N:Addr→Prop}{s:Shared}{z:V}{X Y:R}{Q:Bool→Shared→Prop}
  (C:Cond w c env ρ N s.heap) (h:d ρ (fun v=>K.vTrue v X Y)=some z) (f:∀ t h' tk,(if t then X else Y)=some z→Kp s.heap h'→Q t (sx s h' tk)):wpAny (model prog w.w) A (PySem.isTrue e env (eval e env)) Q E s:=
 H env ρ N s z _ Q C h (fun x hx=>let ⟨t,ht,_⟩:=K.vTrue_some hx;⟨t,ht⟩) fun x t h' tk hx ht kp=>by
  obtain⟨u,hu,hq⟩:=K.vTrue_some hx
  rw[ht]at hu
  cases hu
  exact f t h' tk hq kp
theorem lD_cons(d:D)(ds:List D):K.lD (d::ds)=K.cons d (K.lD ds):=rfl
theorem tD_cons(d:D)(ds:List D):K.tD (d::ds)=K.tcons d (K.tD ds):=rfl
theorem list_ok{r:Rec}{b:Bool}(H:∀ e,DOk w A c b e (r c b e)){env:Env}{ρ:Rho}{N:Addr→Prop}{z:V}:
  ∀ (es:List PySem.Expr) (s:Shared) (k:List V→R) (Q:List Value→Shared→Prop),Cond w c env ρ N s.heap→K.lD (es.map (r c b)) ρ k=some z→
   (∀ xs vs h' tk,xs.length=es.length→k xs=some z→Kp s.heap h'→RbL w N b h' vs xs→Q vs (sx s h' tk))→wpAny (model prog w.w) A (spliced (es.map fun e=>(false,eval e env))) Q E s
 | [],s,k,Q,C,h,f=>Calls.spliced_nil (f [] [] s.heap s.toks rfl h (Kp.refl _) .nil)
 | e::es,s,k,Q,C,h,f=>by
  refine Calls.spliced_cons ((H e).go C h fun x v h₁ t₁ h1 k₁ r₁=>?_)
  exact list_ok H es _ _ _ (C.keeps k₁) h1 fun xs vs h₂ t₂ hl h2 k₂ r₂=>f (x::xs) _ h₂ t₂ (congrArg Nat.succ hl) h2 (k₁.trans k₂) (.cons (r₁.keeps k₂) r₂)
theorem two_ok{e1 e2:PySem.Expr}{d1 d2:D}{b1 b2:Bool}(H1:DOk w A c b1 e1 d1)(H2:DOk w A c b2 e2 d2){env:Env}{ρ:Rho}{N:Addr→Prop}{s:Shared}{z:V}{k:V→V→R}{F:Value→Value→Sem Value}{Q:Value→Shared→Prop}
  (C:Cond w c env ρ N s.heap) (h:d1 ρ (fun x=>d2 ρ fun y=>k x y)=some z)
  (f:∀ x y v₁ v₂ h' tk,k x y=some z→Kp s.heap h'→Rb w N b1 h' v₁ x→Rb w N b2 h' v₂ y→wpAny (model prog w.w) A (F v₁ v₂) Q E (sx s h' tk)):
  wpAny (model prog w.w) A (eval e1 env) (fun v₁ s₁=>wpAny (model prog w.w) A (eval e2 env) (fun v₂ s₂=>wpAny (model prog w.w) A (F v₁ v₂) Q E s₂) E s₁) E s:=
 H1.go C h fun x v₁ h₁ t₁ h1 k₁ r₁=>H2.go (C.keeps k₁) h1 fun y v₂ h₂ t₂ h2 k₂ r₂=>f x y v₁ v₂ h₂ t₂ h2 (k₁.trans k₂) (r₁.keeps k₂) r₂
variable{b fr:Bool}{env:Env}{ρ:Rho}{N:Addr→Prop}{s:Shared}{z:V}{k:V→R}{Q:Value→Shared→Prop}
theorem const_ok{kc:Const}{m:Nat}{p:Pos}(h:K.constD kc ρ k=some z)(out:Ends w s N b fr k z Q):wpAny (model prog w.w) A (eval (.Constant kc m p) env) Q E s:=by
 cases kc with
 | none=>exact wpAny_Constant_none (out _ h _ s.heap s.toks (Kp.refl _) (rb_none _ _) fun _ q=>nomatch q)
 | bool b=>exact wpAny_Constant_bool (out _ h _ s.heap s.toks (Kp.refl _) (rb_bool _ _ _) fun _ q=>nomatch q)
 | int i=>exact wpAny_Constant_int (out _ h _ s.heap _ (Kp.refl _) (rb_int _ _ _ _) fun _ q=>nomatch q)
 | str x=>exact wpAny_Constant_str (out _ h _ s.heap _ (Kp.refl _) (rb_str _ _ _ _) fun _ q=>nomatch q)
 | _=>cases h
theorem name_look{x:Str}{i:Nat}(C:Cond w c env ρ N s.heap)(hi:c.slot x=some i)(h:K.cN b i ρ k=some z):∃ d v,k d=some z∧Look env s.heap x v∧Rb w N b s.heap v d:=by
 cases b with
 | true=>
  obtain⟨d,hs,h⟩:=K.cNt_some h
  rcases hs with hs | hs
  ·obtain⟨v,l,r⟩:=C.inv x i _ hi hs
   exact⟨d,v,h,l,r.weak true⟩
  ·obtain⟨a,l,r⟩:=C.inv x i _ hi hs
   exact⟨d,_,h,l,r⟩
 | false=>
  obtain⟨d,hs,h⟩:=K.cNf_some h
  obtain⟨v,l,r⟩:=C.inv x i _ hi hs
  exact⟨d,v,h,l,r⟩
theorem name_ok{x:Str}{p:Pos}(C:Cond w c env ρ N s.heap)(h:K.nameD c b x ρ k=some z)(out:Ends w s N b false k z Q):wpAny (model prog w.w) A (eval (.Name x p) env) Q E s:=by
 unfold K.nameD at h
 cases q:c.slot x with
 | some i=>
  rw[q]at h
  obtain⟨d,v,hk,l,r⟩:=name_look C q h
  exact ld_look C.e0 q l (out _ hk v s.heap s.toks (Kp.refl _) r fun q=>nomatch q)
 | none=>
  rw[q]at h
  replace h:(if c.isGlob x=true then (match c.lits.lookup x with | some d=>K.cLit d | none=>K.cStuck) else K.cStuck) ρ k=some z:=h
  by_cases hg:c.isGlob x=true
  ·rw[if_pos hg]at h
   cases hd:c.lits.lookup x with
   | none=>rw[hd]at h;cases h
   | some dd=>
    rw[hd]at h
    obtain⟨v,e1,r⟩:=C.gi.lit _ _ hd
    exact ld_global C.e0 hg C.gi.g C.gi.b (.inl e1) (out _ h v s.heap s.toks (Kp.refl _) (r.weak b) fun q=>nomatch q)
  ·rw[if_neg hg]at h;cases h
theorem op_cmpA{op:CmpOp}{x y:V}{v₁ v₂:Value}{t:Bool}{Q:Value→Shared→Prop}{b c:Bool}(hz:CmpR op x y t)(r1:Rb w N b s.heap v₁ x)(r2:Rb w N c s.heap v₂ y)(hu:A.units + 80 < cLine)(ns:NoSys w s.heap)
  (q:∀ tk,Q (.bool t) { s with toks:=tk }):wpAny (model prog w.w) A (compareOp op v₁ v₂) Q E s:=by
 cases y with
 | dict ps=>
  cases hz with
  | inD h=>exact op_inD h r1 r2 ns (by omega) q
  | eq _ h=>cases h
  | ne _ h=>cases h
 | _=>exact op_cmp hz nofun r1 r2 (by omega) (q s.toks)
theorem set_marks{op:CmpOp}{e:PySem.Expr}(h:isSet e=false):behindInMarks op e=false:=by
 cases e with
 | Set=>cases h
 | _=>rfl
theorem ite_bool{t:Bool}{k:V→R}(h:(if t then k (.bool true) else k (.bool false))=some z):k (.bool t)=some z:=by cases t <;> exact h
theorem RbL.weak{h:Heap}{vs:List Value}{ds:List V}(x:RbL w N false h vs ds)(b:Bool):RbL w N b h vs ds:=x.mono fun _ _ y=>y.weak b
theorem ends_weak(out:Ends w s N b fr k z Q):Ends w s N false fr k z Q:=fun x hx v h' tk kp r f=>out x hx v h' tk kp (r.weak b) f
theorem s_get_eq:s_get=Str.ofString "get":=by decide +kernel
end Mine
end
noncomputable section
open PySem PySem.W PyProof.Rows
namespace Mine
open K (R D DL X Orc Rec TgL)
variable{w:Pk}{A:Around}{O:Orc}{r:Rec}{c:Cx}{b fr:Bool}{env:Env}{ρ:Rho}{N:Addr→Prop}{s:Shared}{z:V}{k:V→R}{Q:Value→Shared→Prop}
open scoped Classical
noncomputable def Snd(w:Pk)(A:Around)(O:Orc)(r:Rec):Prop:=
 ∀ c,CallOk w A O c.fns c.lits c.fresh→(∀ b e,DOk w A c b e (r c b e))∧(∀ e,TOk w A c e (r c false e))
theorem if_d{p:Bool}{d:D}(h:(if p then d else K.cStuck) ρ k=some z):p=true∧d ρ k=some z:=by
 cases p with
 | true=>exact⟨rfl,h⟩
 | false=>cases h
theorem size_of{vs:List Value}{xs:List V}{es:List PySem.Expr}{h':Heap}{b:Bool}(hb:Nat.ble es.length 1000=true)(hl:xs.length=es.length)(r:RbL w N b h' vs xs):vs.length≤sizeLine:=by
 rw[All2.length r,hl];exact Nat.le_trans (Nat.le_of_ble_eq_true hb) (by decide)
theorem tup_ok{es:List PySem.Expr}{m:Nat}{p:Pos}(H:∀ e,DOk w A c false e (r c false e))(C:Cond w c env ρ N s.heap)
  (h:(if es.all noStar&&Nat.ble es.length 1000 then K.cTup (K.lD (es.map (r c false))) else K.cStuck) ρ k=some z) (out:Ends w s N b fr k z Q):wpAny (model prog w.w) A (eval (.Tuple es m p) env) Q E s:=by
 obtain⟨q,h⟩:=if_d h
 simp only[Bool.and_eq_true]at q
 refine wpAny_Tuple_spliced ?_
 rw[starEach_eq q.1]
 exact list_ok H es s _ _ C h fun xs vs h' tk hl hx kp r=>⟨size_of q.2 hl r,new_tpl (s:=s) (h':=h') (out _ hx) kp r⟩
theorem lst_ok{es:List PySem.Expr}{p:Pos}(H:∀ e,DOk w A c false e (r c false e))(C:Cond w c env ρ N s.heap)
  (h:(if es.all noStar&&Nat.ble es.length 1000 then K.cList (K.lD (es.map (r c false))) else K.cStuck) ρ k=some z) (out:Ends w s N b fr k z Q):wpAny (model prog w.w) A (eval (.List es p) env) Q E s:=by
 obtain⟨q,h⟩:=if_d h
 simp only[Bool.and_eq_true]at q
 refine wpAny_List_spliced ?_
 rw[starEach_eq q.1]
 exact list_ok H es s _ _ C h fun xs vs h' tk hl hx kp r=>⟨size_of q.2 hl r,new_lst (s:=s) (h':=h') C.live (ends_weak out _ hx) kp r⟩
theorem bin_ok{a b':PySem.Expr}{op:Operator}{p:Pos}{d1 d2:D}(H1:DOk w A c false a d1)(H2:DOk w A c false b' d2)(C:Cond w c env ρ N s.heap)
  (h:K.cBin op d1 d2 ρ k=some z) (out:Ends w s N b fr k z Q):wpAny (model prog w.w) A (eval (.BinOp a op b' p) env) Q E s:=
 wpAny_BinOp (two_ok H1 H2 C h fun x y v₁ v₂ h' tk hx kp r1 r2=>by
  obtain⟨q,hq,hk⟩:=K.binK_some hx
  exact op_bin (s:=(sx s h' tk)) hq r1 r2 (C.live.keeps kp) (Out.after kp (ends_weak out _ hk)))
theorem neg_ok{a:PySem.Expr}{p:Pos}{d:D}(H:DOk w A c false a d)(C:Cond w c env ρ N s.heap)(h:K.cNeg d ρ k=some z)(out:Ends w s N b false k z Q):wpAny (model prog w.w) A (eval (.UnaryOp .USub a p) env) Q E s:=
 wpAny_UnaryOp (H.go C h fun x v h₁ t₁ hx k₁ r₁=>by
  refine bc fun gG=>?_
  obtain⟨i,rfl,hk⟩:=K.vInt_some hx
  refine gG ?_
  rw[K.intK_eq]at hk
  exact op_neg (s:=(sx s h₁ t₁)) r₁ fun tk t=>out _ hk _ h₁ tk k₁ (rb_int _ _ _ _) fun q=>nomatch q)
theorem not_ok{a:PySem.Expr}{p:Pos}{d:D}(H:DOk w A c false a d)(C:Cond w c env ρ N s.heap)(h:K.cNot d ρ k=some z)(out:Ends w s N b false k z Q):wpAny (model prog w.w) A (eval (.UnaryOp .Not a p) env) Q E s:=
 wpAny_UnaryOp (H.go C h fun x v h₁ t₁ hx k₁ r₁=>by
  obtain⟨t,tx,hk⟩:=K.vTrue_some hx
  refine not_value (op_truthy (s:=(sx s h₁ t₁)) (Q:=fun t s'=>Q (.bool !t) s') tx r₁ (out _ ?_ _ h₁ t₁ k₁ (rb_bool _ _ _) fun q=>nomatch q))
  cases t <;> exact hk)
theorem and_ok(H:∀ e,DOk w A c false e (r c false e)){p:Pos}:∀ (es:List PySem.Expr) (s:Shared),Cond w c env ρ N s.heap→K.andL (es.map (r c false)) ρ k=some z→Ends w s N false false k z Q→wpAny (model prog w.w) A (boolOp p .And (evalEach es env)) Q E s
 | [],s,C,h,out=>by cases h
 | [e],s,C,h,out=>H e env ρ N s z k false Q C h (fun q=>nomatch q) out
 | e::e2::es,s,C,h,out=>by
  show wpAny _ _ (do
   let v ← eval e env
   standAt p
   let t ← holding [v] (PySem.truthy v)
   match BoolOp.And,t with
   | .And,false | .Or,true=>pure v
   | _,_=>boolOp p .And (evalEach (e2::es) env)) Q E s
  refine wpAny_bind ((H e).go C h fun x v h' tk hx kp r=>?_)
  obtain⟨t,tx,hk⟩:=K.vTrue_some hx
  refine wpAny_bind (wpAny_standAt (wpAny_bind (wpAny_holding (op_truthy (s:=(sx s h' tk)) tx r ?_))))
  cases t with
  | false=>exact wpAny_pure (out _ hk v h' tk kp r fun q=>nomatch q)
  | true=>exact and_ok H (e2::es) _ (C.keeps kp) hk fun x hx=>Out.after kp (out x hx)
theorem or_ok(H:∀ e,DOk w A c false e (r c false e)){p:Pos}:∀ (es:List PySem.Expr) (s:Shared),Cond w c env ρ N s.heap→K.orL (es.map (r c false)) ρ k=some z→Ends w s N false false k z Q→wpAny (model prog w.w) A (boolOp p .Or (evalEach es env)) Q E s
 | [],s,C,h,out=>by cases h
 | [e],s,C,h,out=>H e env ρ N s z k false Q C h (fun q=>nomatch q) out
 | e::e2::es,s,C,h,out=>by
  show wpAny _ _ (do
   let v ← eval e env
   standAt p
   let t ← holding [v] (PySem.truthy v)
   match BoolOp.Or,t with
   | .And,false | .Or,true=>pure v
   | _,_=>boolOp p .Or (evalEach (e2::es) env)) Q E s
  refine wpAny_bind ((H e).go C h fun x v h' tk hx kp r=>?_)
  obtain⟨t,tx,hk⟩:=K.vTrue_some hx
  refine wpAny_bind (wpAny_standAt (wpAny_bind (wpAny_holding (op_truthy (s:=(sx s h' tk)) tx r ?_))))
  cases t with
  | true=>exact wpAny_pure (out _ hk v h' tk kp r fun q=>nomatch q)
  | false=>exact or_ok H (e2::es) _ (C.keeps kp) hk fun x hx=>Out.after kp (out x hx)
theorem andT_ok(H:∀ e,TOk w A c e (r c false e)){Q:Bool→Shared→Prop}(kt:∀ x,k x=some z→∃ t,truthy x=some t):
  ∀ (es:List PySem.Expr) (s:Shared),Cond w c env ρ N s.heap→K.andL (es.map (r c false)) ρ k=some z→(∀ x t h' tk,k x=some z→truthy x=some t→Kp s.heap h'→Q t (sx s h' tk))→wpAny (model prog w.w) A (allTrue .And es env) Q E s
 | [],s,C,h,out=>by cases h
 | [e],s,C,h,out=>by
  show wpAny _ _ (do match BoolOp.And,← PySem.isTrue e env (eval e env) with | .And,false=>pure false | .Or,true=>pure true | _,_=>allTrue .And [] env) Q E s
  refine wpAny_bind (H e env ρ N s z k _ C h kt fun x t h' tk hx tx kp=>?_)
  cases t <;> exact wpAny_pure (out x _ h' tk hx tx kp)
 | e::e2::es,s,C,h,out=>by
  show wpAny _ _ (do match BoolOp.And,← PySem.isTrue e env (eval e env) with | .And,false=>pure false | .Or,true=>pure true | _,_=>allTrue .And (e2::es) env) Q E s
  refine wpAny_bind (H e env ρ N s z _ _ C h (fun x hx=>let ⟨t,ht,_⟩:=K.vTrue_some hx;⟨t,ht⟩) fun x t h' tk hx tx kp=>?_)
  obtain⟨u,hu,hk⟩:=K.vTrue_some hx
  rw[tx]at hu
  cases hu
  cases t with
  | false=>exact wpAny_pure (out x _ h' tk hk tx kp)
  | true=>exact andT_ok H kt (e2::es) _ (C.keeps kp) hk fun x t h'' tk' hx tx k'=>out x t h'' tk' hx tx (kp.trans k')
theorem orT_ok(H:∀ e,TOk w A c e (r c false e)){Q:Bool→Shared→Prop}(kt:∀ x,k x=some z→∃ t,truthy x=some t):
  ∀ (es:List PySem.Expr) (s:Shared),Cond w c env ρ N s.heap→K.orL (es.map (r c false)) ρ k=some z→(∀ x t h' tk,k x=some z→truthy x=some t→Kp s.heap h'→Q t (sx s h' tk))→wpAny (model prog w.w) A (allTrue .Or es env) Q E s
 | [],s,C,h,out=>by cases h
 | [e],s,C,h,out=>by
  show wpAny _ _ (do match BoolOp.Or,← PySem.isTrue e env (eval e env) with | .And,false=>pure false | .Or,true=>pure true | _,_=>allTrue .Or [] env) Q E s
  refine wpAny_bind (H e env ρ N s z k _ C h kt fun x t h' tk hx tx kp=>?_)
  cases t <;> exact wpAny_pure (out x _ h' tk hx tx kp)
 | e::e2::es,s,C,h,out=>by
  show wpAny _ _ (do match BoolOp.Or,← PySem.isTrue e env (eval e env) with | .And,false=>pure false | .Or,true=>pure true | _,_=>allTrue .Or (e2::es) env) Q E s
  refine wpAny_bind (H e env ρ N s z _ _ C h (fun x hx=>let ⟨t,ht,_⟩:=K.vTrue_some hx;⟨t,ht⟩) fun x t h' tk hx tx kp=>?_)
  obtain⟨u,hu,hk⟩:=K.vTrue_some hx
  rw[tx]at hu
  cases hu
  cases t with
  | true=>exact wpAny_pure (out x _ h' tk hk tx kp)
  | false=>exact orT_ok H kt (e2::es) _ (C.keeps kp) hk fun x t h'' tk' hx tx k'=>out x t h'' tk' hx tx (kp.trans k')
theorem cmp1{a b':PySem.Expr}{op:CmpOp}{d1 d2:D}(H1:DOk w A c true a d1)(H2:DOk w A c true b' d2)(hu:A.units + 80 < cLine)(C:Cond w c env ρ N s.heap){α:Type}{F:Value→Sem α}{Q:α→Shared→Prop}
  (h:K.cCmp op d1 d2 ρ k=some z) (out:∀ t h' tk,k (.bool t)=some z→Kp s.heap h'→wpAny (model prog w.w) A (F (.bool t)) Q E (sx s h' tk)):
  wpAny (model prog w.w) A (eval a env) (fun v₁ s₁=>wpAny (model prog w.w) A (eval b' env) (fun v₂ s₂=>wpAny (model prog w.w) A (compareOp op v₁ v₂) (fun t s₃=>wpAny (model prog w.w) A (F t) Q E s₃) E s₂) E s₁) E s:=
 H1.go C h fun x v₁ h₁ t₁ h1 k₁ r₁=>H2.go (C.keeps k₁) h1 fun y v₂ h₂ t₂ h2 k₂ r₂=>by
  obtain⟨t,ht,hk⟩:=K.cmpK_some h2
  exact op_cmpA (s:=(sx s h₂ t₂)) ht (r₁.keeps k₂) r₂ hu ((C.gi.keeps (k₁.trans k₂)).noSys) fun tk=>out t h₂ tk (ite_bool hk) (k₁.trans k₂)
inductive CmpI(r:Rec)(c:Cx)(a:PySem.Expr)(ρ:Rho)(k:V→R)(z:V):List CmpOp→List PySem.Expr→Prop
 | one{op:CmpOp}{b:PySem.Expr}(hs:isSet b=false)(h:K.cCmp op (r c true a) (r c true b) ρ k=some z):CmpI r c a ρ k z [op] [b]
 | two{o1 o2:CmpOp}{b e:PySem.Expr}(hs:isSet e=false)(h:K.cCmp2 o1 o2 (r c false a) (r c false b) (r c false e) ρ k=some z):CmpI r c a ρ k z [o1,o2] [b,e]
theorem not_set{p:Bool}{d:D}(h:(if p=true then K.cStuck else d) ρ k=some z):p=false∧d ρ k=some z:=by
 cases p with
 | true=>cases h
 | false=>exact⟨rfl,h⟩
theorem cmpI{a:PySem.Expr}{ops:List CmpOp}{bs:List PySem.Expr}(h:K.cmpD r c a ops bs ρ k=some z):CmpI r c a ρ k z ops bs:=by
 cases ops with
 | nil=>cases h
 | cons o1 ops=>
  cases ops with
  | nil=>
   cases bs with
   | nil=>cases h
   | cons b bs=>
    cases bs with
    | nil=>have h:=not_set (p:=isSet b) h;exact .one h.1 h.2
    | cons _ _=>cases h
  | cons o2 ops=>
   cases ops with
   | cons _ _=>cases h
   | nil=>
    cases bs with
    | nil=>cases h
    | cons b bs=>
     cases bs with
     | nil=>cases h
     | cons e bs=>
      cases bs with
      | nil=>have h:=not_set (p:=isSet e) h;exact .two h.1 h.2
      | cons _ _=>cases h
theorem cmp_ok{a:PySem.Expr}{ops:List CmpOp}{bs:List PySem.Expr}{p:Pos}(H:∀ b e,DOk w A c b e (r c b e))(hu:A.units + 80 < cLine)(C:Cond w c env ρ N s.heap)(h:K.cmpD r c a ops bs ρ k=some z)(out:Ends w s N b false k z Q):
  wpAny (model prog w.w) A (eval (.Compare a ops bs p) env) Q E s:=by
 cases cmpI h with
 | one hs h'=>
  exact wpAny_Compare1 (two_ok (H _ _) (H _ _) C h' fun x y v₁ v₂ h' tk hx kp r1 r2=>by
   obtain⟨t,ht,hk⟩:=K.cmpK_some hx
   exact op_cmpA (s:=(sx s h' tk)) ht r1 r2 hu ((C.gi.keeps kp).noSys) fun tk=>out _ (ite_bool hk) _ h' tk kp (rb_bool _ _ _) fun q=>nomatch q) (set_marks hs)
 | @two o1 o2 b' e3 hs h'=>
  refine Compare_chain ((H false a).go C h' fun x v₁ h₁ t₁ hx k₁ r₁=>?_) (set_marks hs)
  refine chain_link ((H false b').go (C.keeps k₁) hx fun y v₂ h₂ t₂ hy k₂ r₂=>?_)
  have k12:Kp s.heap h₂:=k₁.trans k₂
  obtain⟨t,ht,hk⟩:=K.cmpK_some hy
  refine op_cmpA (s:=(sx s h₂ t₂)) ht (r₁.keeps k₂) r₂ hu ((C.gi.keeps k12).noSys) fun tk=>?_
  refine wpAny_truthy_bool ?_
  cases t with
  | true=>
   refine chain_last ((H false e3).go (s:=(sx s h₂ tk)) (C.keeps k12) hk fun z3 v₃ h₃ t₃ hz k₃ r₃=>?_)
   obtain⟨t,ht,hk⟩:=K.cmpK_some hz
   exact op_cmpA (s:=(sx s h₃ t₃)) ht (r₂.keeps k₃) r₃ hu ((C.gi.keeps (k12.trans k₃)).noSys) fun tk=>out _ (ite_bool hk) _ h₃ tk (k12.trans k₃) (rb_bool _ _ _) fun q=>nomatch q
  | false=>exact out _ hk _ h₂ tk k12 (rb_bool _ _ _) fun q=>nomatch q
theorem iteX_ok{t a b':PySem.Expr}{p:Pos}{dt da db:D}{fr:Bool}(HT:TOk w A c t dt)(Ha:DOk w A c false a da)(Hb:DOk w A c false b' db)(C:Cond w c env ρ N s.heap)
  (hfr:fr=true→∃ m,isFresh m c (.IfExp t a b' p)=true) (h:K.cIte dt da db ρ k=some z) (out:Ends w s N b fr k z Q):wpAny (model prog w.w) A (eval (.IfExp t a b' p) env) Q E s:=by
 have f:fr=true→(false=false∧∃ m,isFresh m c a=true)∧(false=false∧∃ m,isFresh m c b'=true):=fun q=>by
  obtain⟨m,hm⟩:=hfr q
  cases m with
  | zero=>cases hm
  | succ m=>
   have hm:(isFresh m c a&&isFresh m c b')=true:=hm
   simp only[Bool.and_eq_true]at hm
   exact⟨⟨rfl,m,hm.1⟩,rfl,m,hm.2⟩
 refine wpAny_IfExp (HT.go C h fun u h' tk hk kp=>?_)
 cases u with
 | true=>exact Ha env ρ N _ z k fr Q (C.keeps kp) hk (fun q=>(f q).1) fun x hx=>Out.after kp (ends_weak out x hx)
 | false=>exact Hb env ρ N _ z k fr Q (C.keeps kp) hk (fun q=>(f q).2) fun x hx=>Out.after kp (ends_weak out x hx)
theorem bi_dict{xs:List V}{y:V}(h:BiR .sorted xs y):∃ ps,xs=[.dict ps]:=by cases h <;> exact⟨_,rfl⟩
theorem callN_ok{f:Str}{p1 p:Pos}{es:List PySem.Expr}{fr:Bool}(H:∀ b e,DOk w A c b e (r c b e))(hc:CallOk w A O c.fns c.lits c.fresh)(hh:A.handled=none)(C:Cond w c env ρ N s.heap)
  (hfr:fr=true→∃ m,isFresh m c (.Call (.Name f p1) es [] p)=true) (h:K.callN O r c f es ρ k=some z) (out:Ends w s N b fr k z Q):wpAny (model prog w.w) A (eval (.Call (.Name f p1) es [] p) env) Q E s:=by
 unfold K.callN at h
 replace h:=if_d h
 refine bc fun gG=>?_
 obtain⟨q,h⟩:=h
 simp only[Bool.and_eq_true,Bool.not_eq_true']at q
 obtain⟨⟨hg,hns⟩,hne⟩:=q
 refine gG ?_
 cases es with
 | nil=>cases hne
 | cons e1 es=>
 cases hi:idxS f 0 c.fns with
 | some i=>
  rw[hi]at h
  replace h:K.lD ((e1::es).map (r c false)) ρ (fun xs=>K.bndK (O i xs) k)=some z:=h
  refine bc fun gG=>?_
  obtain⟨a,o,fd,e2,g2,d2⟩:=C.gi.fn f i hi
  refine gG ?_
  refine wpAny_Call_NameR (ld_global C.e0 hg C.gi.g C.gi.b (.inl e2) ?_)
  rw[starEach_eq hns]
  refine Calls.callWith_function (o:=o) (fd:=fd) (Calls.evalArgs_plain ?_)
  refine list_ok (H false) _ s _ _ C h fun xs vs h' tk hl hx kp rr=>⟨⟨kp _ _ g2,d2⟩,?_⟩
  obtain⟨y,hy,hk⟩:=K.bndK_some hx
  refine hc f i xs y hi hy a fr N (sx s h' tk) vs Q e2 (C.gi.keeps kp) (C.live.keeps kp) rr (fun hf=>?_) (Out.after kp (ends_weak out _ hk))
  obtain⟨m,hm⟩:=hfr hf
  cases m with
  | zero=>cases hm
  | succ m=>
   have hm:(true&&c.isGlob f&&(f==s_list || c.fresh.contains f)&&(c.fresh.contains f || (idxS f 0 c.fns).isNone))=true:=hm
   rw[hi]at hm
   simp only[Option.isNone_some,Bool.or_false,Bool.and_eq_true]at hm
   exact hm.2
 | none=>
  rw[hi]at h
  cases hb:biOf f (e1::es).length with
  | none=>simp only[hb]at h;cases h
  | some bf=>
   simp only[hb]at h
   replace h:K.lD ((e1::es).map (r c true)) ρ (fun xs=>K.biK bf xs k)=some z:=h
   obtain⟨e2,e3⟩:=C.gi.bi f _ bf hi hb
   refine wpAny_Call_NameR (ld_global C.e0 hg C.gi.g C.gi.b (.inr ⟨e2,e3⟩) ?_)
   rw[starEach_eq hns]
   have fin:wpAny (model prog w.w) A (spliced (List.map (fun e=>(false,eval e env)) (e1::es))) (fun vs s'=>wpAny (model prog w.w) A (call (biVal bf) vs) Q E s') E s:=by
    refine list_ok (H true) _ s _ _ C h fun xs vs h' tk hl hx kp rr=>?_
    obtain⟨y,hy,hk⟩:=K.biK_some hx
    have out':=Out.after (t₁:=tk) kp (ends_weak out _ hk)
    by_cases hs:bf=.sorted
    ·subst hs
     obtain⟨ps,rfl⟩:=bi_dict hy
     obtain⟨v,rfl,rv⟩:=one_of rr
     exact op_sorted (s:=(sx s h' tk)) hy hh ((C.gi.keeps kp).noSys) (C.live.keeps kp) rv out'
    ·exact op_bi (s:=(sx s h' tk)) hy hs hh (C.live.keeps kp) rr out'
   have pl:((List.map (fun e=>(false,eval e env)) (e1::es)).any fun x=>x.1)=false:=by simp
   cases bf <;> first
    | exact Calls.callWith_builtin pl (Calls.evalArgs_plain fin)
    | exact PySem.callWith_type pl (Calls.evalArgs_plain fin)
theorem getD_opt{h:Heap}{b:Bool}{ov:Option Value}{f:Option V}{v:Value}{dv:V}(y:OptR w N h ov f)(r:Rb w N b h v dv):Rb w N b h (ov.getD v) (f.getD dv):=by
 cases y with
 | none=>exact r
 | some r=>exact r.weak b
theorem get2_ok{x:Str}{i:Nat}{p ap p2:Pos}{e1 e2:PySem.Expr}{d1 d2:D}(H1:DOk w A c false e1 d1)(H2:DOk w A c false e2 d2)(hu:A.units + 80 < cLine)(hns:[e1,e2].all noStar=true)
  (C:Cond w c env ρ N s.heap) (hi:c.slot x=some i) (hp:(ap.endLine==p.line)=true) (h:K.cGet2 i d1 d2 ρ k=some z) (out:Ends w s N b false k z Q):
  wpAny (model prog w.w) A (eval (.Call (.Attribute (.Name x p2) s_get ap) [e1,e2] [] p) env) Q E s:=by
 obtain⟨d,v,hd,lv,rv⟩:=name_look (b:=true) (k:=fun x=>K.vDict x fun ps=>d1 ρ fun y=>d2 ρ fun d=>K.findD y ps k (k d)) C hi h
 obtain⟨ps,rfl,hd⟩:=K.vDict_some hd
 obtain⟨a,es,n0,ks,ds,rfl,rfl,e,ko,hl,rl,_⟩:=rb_dict_inv rv
 have hsys:=no_mods C.gi.noSys rv
 rw[s_get_eq]
 refine wpAny_Call_method (T:="dict") (id:="dict.get") rfl ?_ hp F.plainAttrs_dict F.slot_dict_get F.type_dict_get (ld_look C.e0 hi lv ⟨⟨_,e,rfl⟩,fun a' q=>?_,?_⟩)
 ·rw[starEach_eq hns];rfl
 ·cases q;exact⟨_,e,rfl⟩
 rw[starEach_eq hns]
 refine method2_meetsIn F.slot_dict_get F.entry_dict_get (H1.go C hd fun kv v₁ h₁ t₁ h1 k₁ r₁=>H2.go (C.keeps k₁) h1 fun dv v₂ h₂ t₂ h2 k₂ r2=>?_)
 have kp:=k₁.trans k₂
 obtain⟨f,hf,hk⟩:=K.findD_some h2
 have hk:k (f.getD dv)=some z:=by cases f <;> exact hk
 obtain⟨ov,x,y⟩:=asked (kp _ _ e) (ko.keeps kp) hl (rl.keeps kp) hf (r₁.keeps k₂)
 have fin:∀ tk,Q (ov.getD v₂) (sx s h₂ tk):=fun tk=>out _ hk _ h₂ _ kp ((getD_opt y r2).weak b) fun q=>nomatch q
 cases x with
 | @flat K _ knd k' kvs i' hk' hd=>exact⟨hd.mapOf.typeIs,F.args_dict_get_3 _ _ _,_,meets_dict_get_default knd a hk' hsys v₂,_,hd.mapOf,fin _⟩
 | @tup k' xs b' tk hd=>exact⟨Heap.DictOfH.typeIs hd,F.args_dict_get_3 _ _ _,_,meetsH_dict_get_default (tupKind w) a b' hsys v₂,lim1 (by omega),k',xs,tk,hd,fin _⟩
end Mine
end
noncomputable section
open PySem PySem.W PyProof.Rows
namespace Mine
open K (R D DL X Orc Rec TgL)
variable{w:Pk}{A:Around}{O:Orc}{r:Rec}{c:Cx}{b fr:Bool}{env:Env}{ρ:Rho}{N:Addr→Prop}{s:Shared}{z:V}{k:V→R}{Q:Value→Shared→Prop}
section
set_option tactic.hygienic true
theorem part_ok(H:∀ e,DOk w A c false e (r c false e)){k:Option V→R}:∀ (e:Option PySem.Expr),Cond w c env ρ N s.heap→K.evO (e.map (r c false)) ρ k=some z→
  (∀ o v h' tk,k o=some z→Kp s.heap h'→PartIs w N h' v o→Q v (sx s h' tk))→wpAny (model prog w.w) A (evalPart e env) Q E s
 | none,C,h,f=>wpAny_pure (f none _ s.heap s.toks h (Kp.refl _) rfl)
 | some e,C,h,f=>(H e).go C h fun x v h' tk hx kp r=>f (some x) v h' tk hx kp r
theorem slice_ok{a:PySem.Expr}{lo hi:Option PySem.Expr}{p1 p:Pos}(H:∀ b e,DOk w A c b e (r c b e))(C:Cond w c env ρ N s.heap)
  (h:K.cSlice (r c true a) (lo.map (r c false)) (hi.map (r c false)) ρ k=some z) (out:Ends w s N b false k z Q):wpAny (model prog w.w) A (eval (.Subscript a (.Slice lo hi none p1) p) env) Q E s:=by
 refine Subscript_ ((H true a).go C h fun x v₁ h₁ t₁ hx k₁ r₁=>?_)
 refine wpAny_Slice (part_ok (s:=(sx s h₁ t₁)) (H false) lo (C.keeps k₁) hx fun l v₂ h₂ t₂ hl k₂ r₂=>?_)
 refine part_ok (s:=(sx s h₂ t₂)) (H false) hi ((C.keeps k₁).keeps k₂) hl fun u v₃ h₃ t₃ hu' k₃ r₃=>?_
 refine wpAny_pure ?_
 have k13:Kp s.heap h₃:=(k₁.trans k₂).trans k₃
 obtain⟨y,hy,hk⟩:=K.slK_some hu'
 exact op_slice (s:=(sx s h₃ t₃)) hy (C.live.keeps k13) (r₁.keeps (k₂.trans k₃)) (r₂.keeps k₃) r₃ (Out.after k13 (ends_weak out _ hk))
theorem int1{kc:Const}{m:Nat}{p:Pos}(h:isInt1 (.Constant kc m p)=true):kc=.int 1:=by
 cases kc with
 | int i=>
  cases i with
  | ofNat n=>
   cases n with
   | zero=>cases h
   | succ n=>
    cases n with
    | zero=>rfl
    | succ n=>cases h
  | negSucc n=>cases h
 | _=>cases h
theorem noP{α:Type}{x:α}{p:Prop}(h:none=some x):p:=nomatch h
theorem noB{p:Prop}(h:false=true):p:=nomatch h
theorem m1I{e:PySem.Expr}{P:Prop}(h:isM1 e=true)(k:∀ m p3 p2,e=.UnaryOp .USub (.Constant (.int 1) m p3) p2→P):P:=by
 revert h k
 apply @PySem.Expr.casesOn (fun e=>isM1 e=true→(∀ m p3 p2,e=.UnaryOp .USub (.Constant (.int 1) m p3) p2→P)→P) e
 case UnaryOp=>
  intro op a p2
  cases op with
  | USub=>
   apply @PySem.Expr.casesOn (fun a=>isM1 (.UnaryOp .USub a p2)=true→(∀ m p3 p2',Expr.UnaryOp .USub a p2=.UnaryOp .USub (.Constant (.int 1) m p3) p2'→P)→P) a
   case Constant=>intro kc m p3 h k;exact k m p3 p2 (by rw[int1 (m:=m) (p:=p3) h])
   all_goals (intros;rename_i h k;exact noB h)
  | _=>exact fun h _=>noB h
 all_goals (intros;rename_i h k;exact noB h)
theorem revI{e:PySem.Expr}{P:Prop}(h:isRev e=true)(k:∀ m p3 p2 p1,e=.Slice none none (some (.UnaryOp .USub (.Constant (.int 1) m p3) p2)) p1→P):P:=by
 revert h k
 apply @PySem.Expr.casesOn (fun e=>isRev e=true→(∀ m p3 p2 p1,e=.Slice none none (some (.UnaryOp .USub (.Constant (.int 1) m p3) p2)) p1→P)→P) e
 case Slice=>
  intro lo hi st p1 h k
  cases lo with
  | some _=>exact noB h
  | none=>
  cases hi with
  | some _=>exact noB h
  | none=>
  cases st with
  | none=>exact noB h
  | some e=>exact m1I h fun m p3 p2 q=>k m p3 p2 p1 (by rw[q])
 all_goals (intros;rename_i h k;exact noB h)
theorem rev_ok{a:PySem.Expr}{s':PySem.Expr}{p:Pos}(H:∀ b e,DOk w A c b e (r c b e))(C:Cond w c env ρ N s.heap)(hr:isRev s'=true)
  (h:K.cRev (r c false a) ρ k=some z) (out:Ends w s N b false k z Q):wpAny (model prog w.w) A (eval (.Subscript a s' p) env) Q E s:=by
 refine revI hr fun m p3 p2 p1 e=>?_
 subst e
 refine Subscript_ ((H false a).go C h fun x v₁ h₁ t₁ hx k₁ r₁=>?_)
 obtain⟨l,rfl,hx'⟩:=K.vList_some hx
 have hx:=K.okL_some hx'
 refine wpAny_Slice (wpAny_pure (wpAny_pure (wpAny_UnaryOp (wpAny_Constant_int ?_))))
 refine op_neg (w:=w) (N:=N) (rb_int false _ 1 _) fun tk t=>?_
 exact op_rev (s:=(sx s h₁ tk)) hx.1 (C.live.keeps k₁) r₁ (Out.after k₁ (ends_weak out _ ((K.revK_eq l fun r=>k (.list r)).symm.trans hx.2)))
theorem item_ok{a i:PySem.Expr}{p:Pos}(H:∀ b e,DOk w A c b e (r c b e))(hu:A.units + 80 < cLine)(C:Cond w c env ρ N s.heap)
  (h:K.cSub (r c true a) (r c false i) ρ k=some z) (out:Ends w s N b false k z Q):wpAny (model prog w.w) A (eval (.Subscript a i p) env) Q E s:=by
 refine Subscript_ ((H true a).go C h fun x v₁ h₁ t₁ hx k₁ r₁=>?_)
 refine(H false i).go (s:=(sx s h₁ t₁)) (C.keeps k₁) hx fun y v₂ h₂ t₂ hy k₂ r₂=>?_
 have k12:Kp s.heap h₂:=k₁.trans k₂
 obtain⟨q,hq,hk⟩:=K.getV_some hy
 cases x with
 | dict ps=>
  cases hq with
  | dict hq=>exact op_subD (s:=(sx s h₂ t₂)) hq (r₁.keeps k₂) r₂ (by omega) fun v tk r=>out _ hk v h₂ tk k12 (r.weak b) fun q=>nomatch q
 | _=>exact op_sub (s:=(sx s h₂ t₂)) hq nofun (r₁.keeps k₂) r₂ fun v r=>out _ hk v h₂ t₂ k12 (r.weak b) fun q=>nomatch q
theorem sub_ok{a i:PySem.Expr}{p:Pos}(H:∀ b e,DOk w A c b e (r c b e))(hu:A.units + 80 < cLine)(C:Cond w c env ρ N s.heap)
  (h:K.subD r c a i ρ k=some z) (out:Ends w s N b false k z Q):wpAny (model prog w.w) A (eval (.Subscript a i p) env) Q E s:=by
 cases i with
 | Slice lo hi st p1=>
  cases st with
  | none=>exact slice_ok H C h out
  | some e=>
   replace h:=if_d (p:=isRev (.Slice lo hi (some e) p1)) h
   obtain⟨hr,h⟩:=h
   exact rev_ok H C hr h out
 | _=>exact item_ok H hu C h out
theorem dict_ok{ks:List (Option PySem.Expr)}{vs:List PySem.Expr}{p:Pos}{fr:Bool}(C:Cond w c env ρ N s.heap)(h:K.dictD ks vs ρ k=some z)(out:Ends w s N b fr k z Q):wpAny (model prog w.w) A (eval (.Dict ks vs p) env) Q E s:=by
 cases ks with
 | nil=>
  cases vs with
  | nil=>
   refine wpAny_Dict_empty (out _ h _ _ s.toks (kp_push _ _) ⟨[s.heap.objs.size],?_,fun a m n=>?_⟩ fun _ _=>⟨_,rfl,none_size _⟩)
   ·exact Rd.dict (es:=[]) (ks:=[]) (ds:=[]) (n:=0) (Heap.get?_push_size _ rfl) (KeysOk.kI (is:=[]) .nil List.nodup_nil) rfl .nil
   ·rw[List.mem_singleton]at m;subst m;exact absurd n C.live.fresh
  | cons _ _=>cases h
 | cons _ _=>cases h
theorem nameOf_some{o:PySem.Expr}{x:Str}(h:nameOf o=some x):∃ p,o=.Name x p:=by
 refine Classical.byContradiction fun g=>?_
 revert h g
 apply @PySem.Expr.casesOn (fun o=>nameOf o=some x→(¬∃ p,o=.Name x p)→False) o
 case Name=>intro y p h g;exact g ⟨p,congrArg (PySem.Expr.Name · p) (Option.some.inj h)⟩
 all_goals (intros;rename_i h g;exact noP h)
theorem callMI{o:PySem.Expr}{m:Str}{ap p:Pos}{es:List PySem.Expr}(h:K.callM r c o m ap p es ρ k=some z):
  ∃ x p2 e1 e2 i,o=.Name x p2∧es=[e1,e2]∧m=s_get∧(ap.endLine==p.line)=true∧[e1,e2].all noStar=true∧c.slot x=some i∧K.cGet2 i (r c false e1) (r c false e2) ρ k=some z:=by
 cases es with
 | nil=>cases h
 | cons e1 es=>
 cases es with
 | nil=>cases h
 | cons e2 es=>
 cases es with
 | cons _ _=>cases h
 | nil=>
 unfold K.callM at h
 cases ho:nameOf o with
 | none=>rw[ho]at h;cases h
 | some x=>
  rw[ho]at h
  obtain⟨q,g⟩:=if_d h
  obtain⟨p2,rfl⟩:=nameOf_some ho
  rw[Bool.and_eq_true,Bool.and_eq_true,Bool.and_eq_true]at q
  cases hi:c.slot x with
  | none=>rw[hi]at g;cases g
  | some i=>
   rw[hi]at g
   exact⟨x,p2,e1,e2,i,rfl,rfl,eq_of_beq q.1.1.1,q.1.1.2,by rw[List.all_cons,List.all_cons,q.1.2,q.2];rfl,hi,g⟩
theorem callM_ok{o:PySem.Expr}{m:Str}{ap p:Pos}{es:List PySem.Expr}(H:∀ b e,DOk w A c b e (r c b e))(hu:A.units + 80 < cLine)(C:Cond w c env ρ N s.heap)
  (h:K.callM r c o m ap p es ρ k=some z) (out:Ends w s N b false k z Q):wpAny (model prog w.w) A (eval (.Call (.Attribute o m ap) es [] p) env) Q E s:=by
 obtain⟨x,p2,e1,e2,i,rfl,rfl,rfl,q2,q3,hi,g⟩:=callMI h
 exact get2_ok (H false e1) (H false e2) hu q3 C hi q2 g out
theorem nofr{e:PySem.Expr}(q:∀ m,isFresh m c e=false)(hfr:fr=true→b=false∧∃ m,isFresh m c e=true)(out:Ends w s N b fr k z Q):Ends w s N b false k z Q:=fun x hx v h' tk kp r _=>out x hx v h' tk kp r fun hf=>by
 obtain⟨_,m,hm⟩:=hfr hf
 rw[q m]at hm;cases hm
theorem stuck_d{e:PySem.Expr}:DOk w A c b e K.cStuck:=fun _ _ _ _ _ _ _ _ _ h=>nomatch h
theorem fr0{e:PySem.Expr}(h:∀ m,isFresh (m + 1) c e=false)(m:Nat):isFresh m c e=false:=by cases m with | zero=>rfl | succ m=>exact h m
theorem step_d(H:Snd w A O r)(hc:CallOk w A O c.fns c.lits c.fresh)(hh:A.handled=none)(hu:A.units + 80 < cLine)
  (HL:∀ elt gens sc p b,DOk w A c b (.ListComp elt gens sc p) (K.compD r c elt sc gens)) (HD:∀ k v gens sc p b,DOk w A c b (.DictComp k v gens sc p) (K.dcompD r c k v sc gens)):
  ∀ b e,DOk w A c b e (K.step O r c b e):=by
 intro b e
 have HE:=(H c hc).1
 apply @PySem.Expr.casesOn (fun e=>DOk w A c b e (K.step O r c b e)) e
 case Constant=>intro kc m p _ _ _ _ _ _ _ _ C h hfr out;exact const_ok h out
 case Name=>intro x p _ _ _ _ _ _ _ _ C h hfr out;exact name_ok C h (nofr (fr0 fun _=>rfl) hfr out)
 case Tuple=>intro es m p _ _ _ _ _ _ _ _ C h hfr out;exact tup_ok (HE false) C h out
 case List=>intro es p _ _ _ _ _ _ _ _ C h hfr out;exact lst_ok (HE false) C h out
 case BinOp=>intro a op b' p _ _ _ _ _ _ _ _ C h hfr out;exact bin_ok (HE false a) (HE false b') C h out
 case UnaryOp=>
  intro op a p
  cases op with
  | USub=>intro _ _ _ _ _ _ _ _ C h hfr out;exact neg_ok (HE false a) C h (nofr (fr0 fun _=>rfl) hfr out)
  | Not=>intro _ _ _ _ _ _ _ _ C h hfr out;exact not_ok (HE false a) C h (nofr (fr0 fun _=>rfl) hfr out)
  | _=>exact stuck_d
 case BoolOp=>
  intro op es p
  cases op with
  | And=>intro _ _ _ s _ _ _ _ C h hfr out;exact and_ok (HE false) es s C h (ends_weak (nofr (fr0 fun _=>rfl) hfr out))
  | Or=>intro _ _ _ s _ _ _ _ C h hfr out;exact or_ok (HE false) es s C h (ends_weak (nofr (fr0 fun _=>rfl) hfr out))
 case Compare=>intro a ops bs p _ _ _ _ _ _ _ _ C h hfr out;exact cmp_ok HE hu C h (nofr (fr0 fun _=>rfl) hfr out)
 case IfExp=>intro t a b' p _ _ _ _ _ _ _ _ C h hfr out;exact iteX_ok ((H c hc).2 t) (HE false a) (HE false b') C (fun q=>(hfr q).2) h out
 case Call=>
  intro f es kws p
  cases kws with
  | cons _ _=>exact stuck_d
  | nil=>
  apply @PySem.Expr.casesOn (fun f=>DOk w A c b (.Call f es [] p) (K.step O r c b (.Call f es [] p))) f
  case Name=>intro f p1 _ _ _ _ _ _ _ _ C h hfr out;exact callN_ok HE hc hh C (fun q=>(hfr q).2) h out
  case Attribute=>intro o m ap _ _ _ _ _ _ _ _ C h hfr out;exact callM_ok HE hu C h (nofr (fr0 fun _=>rfl) hfr out)
  all_goals (intros;exact stuck_d)
 case Subscript=>intro a i p _ _ _ _ _ _ _ _ C h hfr out;exact sub_ok HE hu C h (nofr (fr0 fun _=>rfl) hfr out)
 case ListComp=>intro elt gens sc p;exact HL elt gens sc p b
 case DictComp=>intro kk v gens sc p;exact HD kk v gens sc p b
 case Dict=>intro ks vs p _ _ _ _ _ _ _ _ C h hfr out;exact dict_ok C h out
 all_goals (intros;exact stuck_d)
noncomputable def plainT:PySem.Expr→Bool
 | .UnaryOp .Not _ _=>false
 | .BoolOp _ _ _=>false
 | .IfExp _ _ _ _=>false
 | .Compare _ _ _ _=>false
 | _=>true
theorem isTrue_plain{e:PySem.Expr}(h:plainT e=true)(env:Env)(whole:Sem Value):PySem.isTrue e env whole=(do
  let v ← whole
  standAt e.pos
  holding [v] (PySem.truthy v)):=by
 cases e with
 | UnaryOp op a p=>cases op <;> first | rfl | cases h
 | BoolOp=>cases h
 | IfExp=>cases h
 | Compare=>cases h
 | _=>rfl
theorem test_plain{e:PySem.Expr}{d:D}(hp:plainT e=true)(H:DOk w A c false e d):TOk w A c e d:=by
 intro env ρ N s z k Q C h kt out
 rw[isTrue_plain hp]
 refine wpAny_bind (H.go C h fun x v h₁ t₁ hx k₁ r₁=>?_)
 obtain⟨t,tx⟩:=kt x hx
 exact wpAny_bind (wpAny_standAt (wpAny_holding (op_truthy (s:=(sx s h₁ t₁)) tx r₁ (out x t h₁ t₁ hx tx k₁))))
theorem step_t(H:Snd w A O r)(hc:CallOk w A O c.fns c.lits c.fresh)(hu:A.units + 80 < cLine)
  (HD:∀ e,DOk w A c false e (K.step O r c false e)):∀ e,TOk w A c e (K.step O r c false e):=by
 intro e
 by_cases hp:plainT e=true
 ·exact test_plain hp (HD e)
 intro env ρ N s z k Q C h kt out
 have HE:=(H c hc).1
 have HT:=(H c hc).2
 have ones:∀ {t:Bool},k (.bool t)=some z→∀ h' tk,Kp s.heap h'→Q t (sx s h' tk):=fun hk h' tk kp=>out _ _ h' tk hk rfl kp
 cases e with
 | UnaryOp op a p=>
  cases op with
  | Not=>exact wpAny_isTrue_Not ((HT a).go C h fun t h' tk hk kp=>ones (by cases t <;> exact hk) h' tk kp)
  | _=>exact absurd rfl hp
 | BoolOp op es p=>
  cases op with
  | And=>exact wpAny_isTrue_BoolOp (andT_ok HT kt es s C h out)
  | Or=>exact wpAny_isTrue_BoolOp (orT_ok HT kt es s C h out)
 | IfExp t a b' p=>
  show wpAny _ _ (do if ← PySem.isTrue t env (eval t env) then PySem.isTrue a env (eval a env) else PySem.isTrue b' env (eval b' env)) Q E s
  refine wpAny_bind ((HT t).go C h fun u h' tk hk kp=>?_)
  cases u with
  | true=>exact HT a env ρ N _ z k Q (C.keeps kp) hk kt fun x t h'' tk' hx tx k'=>out x t h'' tk' hx tx (kp.trans k')
  | false=>exact HT b' env ρ N _ z k Q (C.keeps kp) hk kt fun x t h'' tk' hx tx k'=>out x t h'' tk' hx tx (kp.trans k')
 | Compare a ops bs p=>
  cases cmpI h with
  | one hs h'=>exact wpAny_isTrue_Compare1 (cmp1 (F:=PySem.truthy) (HE _ _) (HE _ _) hu C h' fun t h' tk hk kp=>wpAny_truthy_bool (ones hk h' tk kp)) (set_marks hs)
  | @two o1 o2 b' e3 hs h'=>
   refine isTrue_chain ((HE false a).go C h' fun x v₁ h₁ t₁ hx k₁ r₁=>?_) (set_marks hs)
   refine test_link ((HE false b').go (C.keeps k₁) hx fun y v₂ h₂ t₂ hy k₂ r₂=>?_)
   have k12:Kp s.heap h₂:=k₁.trans k₂
   obtain⟨t,ht,hk⟩:=K.cmpK_some hy
   refine op_cmpA (s:=(sx s h₂ t₂)) ht (r₁.keeps k₂) r₂ hu ((C.gi.keeps k12).noSys) fun tk=>?_
   refine wpAny_truthy_bool ?_
   cases t with
   | true=>
    refine test_last ((HE false e3).go (s:=(sx s h₂ tk)) (C.keeps k12) hk fun z3 v₃ h₃ t₃ hz k₃ r₃=>?_)
    obtain⟨t,ht,hk⟩:=K.cmpK_some hz
    exact op_cmpA (s:=(sx s h₃ t₃)) ht (r₂.keeps k₃) r₃ hu ((C.gi.keeps (k12.trans k₃)).noSys) fun tk=>wpAny_truthy_bool (ones (ite_bool hk) h₃ tk (k12.trans k₃))
   | false=>exact ones hk h₂ tk k12
 | _=>exact absurd rfl hp
end
end Mine
end
noncomputable section
open PySem PySem.W PyProof.Rows
namespace Mine
variable{w:Pk}{h h':Heap}{N:Addr→Prop}{W:Addr→Prop}
noncomputable def KpB(W:Addr→Prop)(h h':Heap):Prop:=∀ a o,¬ W a→h.get? a=some o→h'.get? a=some o
noncomputable def NoT(W:Addr→Prop)(h:Heap):Prop:=∀ a o,W a→h.get? a=some o→¬ (o.cls=.type "tuple"∧∃ vs n,o.data=.seq vs n)
theorem KpB.trans{a b c:Heap}(x:KpB W a b)(y:KpB W b c):KpB W a c:=fun d o n e=>y d o n (x d o n e)
theorem Kp.b(k:Kp h h'):KpB W h h':=fun a o _ e=>k a o e
theorem reads_key_but(k:KpB W h h')(nt:NoT W h):∀ (n:Nat) (d:V) {v:Value} {as:List Addr},keyD n d=true→Reads h v d as→Reads h' v d as:=by
 intro n
 induction n with
 | zero=>intro d v as h;simp [keyD]at h
 | succ n ih=>
  intro d v as hk r
  cases r with
  | none=>exact .none
  | bool b=>exact .bool b
  | int i t=>exact .int i t
  | str x t=>exact .str x t
  | list=>simp [keyD]at hk
  | dict=>simp [keyD]at hk
  | @tuple a o vs m ds as h1 h2 h3 h4=>
   have all:∀ {vs:List Value} {ds:List V} {as:List Addr},ds.all (keyD n)=true→ReadsAll h vs ds as→ReadsAll h' vs ds as:=by
    intro vs ds as hd ra
    induction ds generalizing vs as with
    | nil=>cases ra;exact .nil
    | cons d ds ihd=>
     cases ra with
     | cons x y=>
      simp only[List.all_cons,Bool.and_eq_true]at hd
      exact .cons (ih d hd.1 x) (ihd hd.2 y)
   simp only[keyD]at hk
   have hw:¬ W a:=fun q=>nt a o q h1 ⟨h2,_,_,h3⟩
   exact .tuple (k _ _ hw h1) h2 h3 (all hk h4)
theorem TKey.but(k:KpB W h h')(nt:NoT W h){d:V}{a:Addr}(x:TKey h d a):TKey h' d a:=let ⟨q,b,as,r,e⟩:=x;⟨q,b,as,reads_key_but k nt 7 d q r,exa_mono (fun a vs m g=>k _ _ (fun w=>nt a _ w g ⟨rfl,_,_,rfl⟩) g) 7 _ _ e⟩
theorem KeysOk.but(k:KpB W h h')(nt:NoT W h){es ks}(x:KeysOk w h es ks):KeysOk w h' es ks:=by
 cases x with
 | kI a b=>exact .kI a b
 | kS a b=>exact .kS a b
 | kT a b=>exact .kT (a.mono fun e d ⟨x,b,y,z⟩=>⟨x,b,y,z.but k nt⟩) b
theorem rd_but(k:KpB W h h')(nt:NoT W h):(∀ {v d as},Rd w h v d as→(∀ a∈as,¬ W a)→Rd w h' v d as)∧(∀ {vs ds as},RdL w h vs ds as→(∀ a∈as,¬ W a)→RdL w h' vs ds as):=
 rd_both (P:=fun v d as=>(∀ a∈as,¬ W a)→Rd w h' v d as) (PL:=fun vs ds as=>(∀ a∈as,¬ W a)→RdL w h' vs ds as) (fun _=>.none) (fun b _=>.bool b) (fun i t _=>.int i t) (fun x t _=>.str x t)
  (fun e _ r n=>have n:=List.forall_mem_cons.mp n;.list (k _ _ n.1 e) (r n.2)) (fun e _ r n=>.tuple (k _ _ (fun q=>nt _ _ q e ⟨rfl,_,_,rfl⟩) e) (r n)) (fun e x l _ r n=>have n:=List.forall_mem_cons.mp n;.dict (k _ _ n.1 e) (x.but k nt) l (r n.2)) (fun _=>.nil)
  fun _ a _ b n=>have n:=List.forall_mem_append.mp n;.cons (a n.1) (b n.2)
theorem Rd.but(k:KpB W h h')(nt:NoT W h){v:Value}{d:V}{as:List Addr}(x:Rd w h v d as)(n:∀ a∈as,¬ W a):Rd w h' v d as:=(rd_but k nt).1 x n
theorem Rb.but{b:Bool}(i:∀ a,W a→N a)(k:KpB W h h')(nt:NoT W h){v:Value}{d:V}(x:Rb w N false h v d):Rb w N b h' v d:=
 let ⟨as,r,q⟩:=x
 ⟨as,r.but k nt fun a m c=>(nomatch (q a m (i a c)).1),fun a m n=>(nomatch (q a m n).1)⟩
theorem RbL.but(i:∀ a,W a→N a)(k:KpB W h h')(nt:NoT W h){vs:List Value}{ds:List V}(x:RbL w N false h vs ds):RbL w N false h' vs ds:=x.mono fun _ _ y=>y.but i k nt
theorem Live.but(k:KpB W h h')(l:Live N h)(lw:∀ a,W a→∃ o,h'.get? a=some o):Live N h':=fun a n=>by
 classical
 by_cases q:W a
 ·exact lw a q
 ·obtain⟨o,e⟩:=l a n;exact⟨o,k a o q e⟩
theorem Look.but{env:Env}{x:Str}{v:Value}(k:KpB W h h')(l:Look env h x v)(nl:¬ W env.locals)(nc:∀ c,env.cells.lookup x=some c→¬ W c):Look env h' x v:=by
 rcases l with ⟨a,m,n,e⟩ | ⟨a,c,e,o,ho,hd⟩
 ·exact .inl ⟨a,m,n.at' fun o e=>k _ o nl e,e⟩
 ·exact .inr ⟨a,c,e,o,k _ _ (nc c e) ho,hd⟩
end Mine
end
noncomputable section
open PySem PySem.W PyProof.Rows
namespace Mine
variable{w:Pk}{A:Around}{O:Orc}{s:Shared}{N N':Addr→Prop}{h h':Heap}
theorem Rb.more(i:∀ a,N' a→N a∨h.get? a=none){b:Bool}{v:Value}{d:V}(x:Rb w N b h v d):Rb w N' b h v d:=
 let ⟨as,r,q⟩:=x
 ⟨as,r,fun a m n=>(i a n).elim (q a m) fun e=>by obtain⟨o,eo⟩:=r.live a m;rw[e]at eo;cases eo⟩
theorem SlotOk.more(i:∀ a,N' a→N a∨h.get? a=none){env:Env}{x:Str}{sl:Sl}(q:SlotOk w env N h x sl):SlotOk w env N' h x sl:=by
 cases sl with
 | un=>trivial
 | va d=>exact let ⟨v,l,r⟩:=q;⟨v,l,r.more i⟩
 | ow d=>exact let ⟨v,l,r⟩:=q;⟨v,l,r.more i⟩
theorem GI.more{fns:List Str}{lits:List (Str × V)}(i:∀ a,N' a→N a∨h.get? a=none)(q:GI w fns lits N h):GI w fns lits N' h:=
 ⟨q.base,q.g,q.b,fun x d e=>let ⟨v,a,r⟩:=q.lit x d e;⟨v,a,r.more i⟩,q.fn,q.bi,q.rg,q.en,q.rv,q.sm⟩
theorem okScope_parts{c:Cx}{sc:Scope}{ts:List Str}(h:okScope c sc ts=true):sc.kind=.function∧(∀ p∈sc.names,okName c sc ts p=true)∧(∀ x∈ts,sc.names.lookup x=some .local∨sc.names.lookup x=some .cell)∧s_dot0∉ts∧s_dot0∉c.ls:=by
 unfold okScope at h
 simp only[Bool.and_eq_true,List.all_eq_true,Bool.or_eq_true,beq_iff_eq,Bool.not_eq_true',List.contains_eq_mem,decide_eq_false_iff_not]at h
 exact⟨h.1.1.1.1,h.1.1.1.2,h.1.1.2,h.1.2,h.2⟩
theorem okName_parts{c:Cx}{sc:Scope}{ts:List Str}{x:Str}{k:NameKind}(h:okName c sc ts (x,k)=true):(x==s_debug)=false∧(x==s_classdict)=false∧
  ((k=.local∧(x=s_dot0∨x∈ts)∧sc.names.lookup x=some .local)∨(k=.cell∧x∈ts∧sc.names.lookup x=some .cell)∨(k=.free∧(c.names.lookup x=some .cell∨c.names.lookup x=some .free)∧x∉ts)∨(k=.globalImplicit∧x∉ts)):=by
 unfold okName at h
 simp only[Bool.and_eq_true,Bool.not_eq_true']at h
 refine⟨h.1.1,h.1.2,?_⟩
 have h2:=h.2
 cases k <;> simp at h2 <;> simp [h2]
theorem closure_of{env:Env}:∀ (names:List (Str × NameKind)) (acc:List (Str × Addr)),(∀ x,(x,NameKind.free)∈names→∃ a,env.cells.lookup x=some a)→
  ∃ cl,(forIn names acc fun (x:Str × NameKind) cs=>if (x.2 == .free)=true then (do pure (ForInStep.yield ((x.1,← cellOf env x.1)::cs)):Sem _) else pure (ForInStep.yield cs))=pure cl∧
   ∀ x,cl.lookup x=(if (x,NameKind.free)∈names then env.cells.lookup x else acc.lookup x):=by
 intro names
 induction names with
 | nil=>intro acc _;exact⟨acc,rfl,fun x=>by simp⟩
 | cons p r ih=>
  intro acc hx
  obtain⟨n,k⟩:=p
  by_cases hk:k=.free
  ·subst hk
   obtain⟨a,ea⟩:=hx n (.head _)
   obtain⟨cl,e,l⟩:=ih ((n,a)::acc) fun x m=>hx x (.tail _ m)
   refine⟨cl,?_,fun x=>?_⟩
   ·rw[List.forIn_cons]
    simp only[beq_self_eq_true,if_true,cellOf,ea]
    exact e
   ·rw[l]
    by_cases hm:(x,NameKind.free)∈r
    ·simp [hm]
    ·by_cases hxn:x=n
     ·subst hxn;simp [hm,ea]
     ·have:(x==n)=false:=by simpa using hxn
      simp [hm,hxn,List.lookup_cons,this]
  ·obtain⟨cl,e,l⟩:=ih acc fun x m=>hx x (.tail _ m)
   have hb:(k==NameKind.free)=false:=by simpa using hk
   refine⟨cl,?_,fun x=>?_⟩
   ·rw[List.forIn_cons]
    simp only[hb,Bool.false_eq_true,if_false]
    exact e
   ·rw[l]
    have:((x,NameKind.free)∈(n,k)::r)↔(x,NameKind.free)∈r:=by
     constructor
     ·intro m
      rcases List.mem_cons.mp m with q | q
      ·cases q;exact absurd rfl hk
      ·exact q
     ·exact fun m=>.tail _ m
    simp only[this]
theorem closureFor_of{scope:Scope}{env:Env}(hx:∀ x,(x,NameKind.free)∈scope.names→∃ a,env.cells.lookup x=some a):
  ∃ cl,closureFor scope env=pure cl∧∀ x,cl.lookup x=(if (x,NameKind.free)∈scope.names then env.cells.lookup x else none):=by
 obtain⟨cl,e,l⟩:=closure_of (env:=env) scope.names [] hx
 refine⟨cl,?_,fun x=>by rw[l];rfl⟩
 unfold closureFor
 simp only[]
 rw[e]
 rfl
theorem idxS_append(x:Str):∀ (l t:List Str) (k:Nat),idxS x k (l++t)=match idxS x (k + l.length) t with | some j=>some j | none=>idxS x k l
 | [],t,k=>by simp only[List.nil_append,List.length_nil,Nat.add_zero];cases idxS x k t <;> rfl
 | y::l,t,k=>by
  have ih:=idxS_append x l t (k + 1)
  simp only[List.cons_append,idxS,ih,List.length_cons]
  rw[show k + 1 + l.length=k + (l.length + 1) by omega]
  cases idxS x (k + (l.length + 1)) t <;> rfl
theorem idxS_ge(x:Str):∀ (l:List Str) (k j:Nat),idxS x k l=some j→k≤j∧j < k + l.length
 | [],k,j,h=>by simp [idxS]at h
 | y::l,k,j,h=>by
  simp only[idxS]at h
  cases q:idxS x (k + 1) l with
  | some j'=>
   rw[q]at h
   simp only[Option.some.injEq]at h
   subst h
   have:=idxS_ge x l _ _ q
   simp only[List.length_cons];omega
  | none=>
   rw[q]at h
   simp only at h
   split at h
   ·cases h;simp only[List.length_cons];omega
   ·cases h
theorem idxS_none(x:Str):∀ (l:List Str) (k:Nat),x∉l→idxS x k l=none
 | [],k,_=>rfl
 | y::l,k,h=>by
  simp only[List.mem_cons,not_or]at h
  simp only[idxS,idxS_none x l (k + 1) h.2]
  rw[if_neg];simpa using h.1
theorem idxS_some(x:Str):∀ (l:List Str) (k:Nat),x∈l→∃ j,idxS x k l=some j
 | y::l,k,h=>by
  simp only[idxS]
  cases q:idxS x (k + 1) l with
  | some j=>exact⟨j,rfl⟩
  | none=>
   refine⟨k,?_⟩
   rcases List.mem_cons.mp h with e | m
   ·simp [e]
   ·obtain⟨j,e⟩:=idxS_some x l (k + 1) m;rw[q]at e;cases e
theorem lookup_rel{env:Env}(x:Str):∀ names:List (Str × NameKind),(names.map fun (n,k)=>if (k==NameKind.free&&env.scope.kind == .function&&env.kindOf n==some .cell) then (n,NameKind.cell) else (n,k)).lookup x =
  (names.lookup x).map fun k=>if (k==NameKind.free&&env.scope.kind == .function&&env.kindOf x==some .cell) then NameKind.cell else k
 | []=>rfl
 | (n,k)::r=>by
  have ih:=lookup_rel (env:=env) x r
  rw[List.map_cons]
  by_cases hx:x=n
  ·subst hx
   by_cases hc:(k==NameKind.free&&env.scope.kind == .function&&env.kindOf x==some .cell)=true
   ·simp only[hc,if_true,List.lookup_cons,beq_self_eq_true,Option.map_some]
   ·simp only[hc,if_false,List.lookup_cons,beq_self_eq_true,Option.map_some,Bool.false_eq_true]
  ·have hb:(x==n)=false:=by simpa using hx
   by_cases hc:(k==NameKind.free&&env.scope.kind == .function&&env.kindOf n==some .cell)=true
   ·simp only[hc,if_true,List.lookup_cons,hb];exact ih
   ·simp only[hc,if_false,List.lookup_cons,hb,Bool.false_eq_true];exact ih
theorem debug_eq:s_debug=("__debug__":Str):=by decide +kernel
theorem classdict_eq:s_classdict=("__classdict__":Str):=by decide +kernel
theorem comp_cond{c:Cx}{env:Env}{ρ:Rho}{sc:Scope}{ts:List Str}{cl:List (Str × Addr)}{C:Addr}(C0:Cond w c env ρ N h)(ok:okScope c sc ts=true)
  (hfree:∀ x,(x,NameKind.free)∈sc.names→cl.lookup x=env.cells.lookup x) (hcell:∀ x,sc.names.lookup x=some .cell→∃ a,cl.lookup x=some a) (hcel:∀ x a,cl.lookup x=some a→∃ v,h'.IsCell a v) (hdis:∀ x y a,cl.lookup x=some a→cl.lookup y=some a→x=y)
  (k:Kp h h') (i:∀ a,N' a→N a∨h.get? a=none) (lv:Live N' h'):Cond w (c.ofComp sc ts) (compEnvC sc cl C env) (ρ ++ ts.map fun _=>.un) N' h':=by
 obtain⟨o1,o2,o3,o4,o5⟩:=okScope_parts ok
 have kd:∀ x,(compEnvC sc cl C env).kindOf x=(sc.names.lookup x).map fun k=>if (k==NameKind.free&&env.scope.kind == .function&&env.kindOf x==some .cell) then NameKind.cell else k:=fun x=>lookup_rel x sc.names
 have nm:∀ x k,sc.names.lookup x=some k→_:=fun x k e=>okName_parts (o2 (x,k) (mem_of_lookup e))
 have fr:∀ x,sc.names.lookup x=some .free→(c.names.lookup x=some .cell∨c.names.lookup x=some .free)∧x∉ts:=fun x e=>by
  rcases (nm x _ e).2.2 with ⟨q,_⟩ | ⟨q,_⟩ | ⟨_,q⟩ | ⟨q,_⟩
  ·cases q
  ·cases q
  ·exact q
  ·cases q
 refine⟨⟨o1,C0.e0.glob,C0.e0.blt,?_,?_,?_,?_,?_⟩,?_,(C0.gi.more i).keeps k,lv,?_,hcel,hdis⟩
 ·intro x e
  rw[kd,show sc.names.lookup x=some .local from e];rfl
 ·intro x e
  rw[kd]
  rcases (show sc.names.lookup x=some .cell∨sc.names.lookup x=some .free from e) with e | e
  ·rw[e];exact .inl rfl
  ·rw[e,Option.map_some]
   split
   ·exact .inl rfl
   ·exact .inr rfl
 ·intro x e
  rcases (show sc.names.lookup x=some .cell∨sc.names.lookup x=some .free from e) with e | e
  ·exact hcell x e
  ·obtain⟨a,ea⟩:=C0.e0.has x (fr x e).1
   exact⟨a,(hfree x (mem_of_lookup e)).trans ea⟩
 ·intro x e
  rw[kd,show sc.names.lookup x=some .globalImplicit from e];rfl
 ·intro x kk e
  have:=nm x kk e
  rw[← debug_eq,← classdict_eq];exact⟨this.1,this.2.1⟩
 ·intro x j sl hs hsl
  have hs':∃ kk,sc.names.lookup x=some kk∧(kk=.local∨kk=.cell∨kk=.free)∧idxS x 0 (c.ls++ts)=some j:=by
   obtain⟨kk,e,q⟩:=slot_kind hs
   refine⟨kk,e,q,?_⟩
   unfold Cx.slot at hs
   rw[e]at hs
   rcases q with rfl | rfl | rfl <;> exact hs
  obtain⟨kk,e,q,hj⟩:=hs'
  by_cases hlt:j < ρ.length
  ·rw[List.getElem?_append_left hlt]at hsl
   rw[idxS_append]at hj
   rcases (nm x kk e).2.2 with ⟨_,q1 | q1,_⟩ | ⟨_,q1,_⟩ | ⟨q0,q1,q2⟩ | ⟨q0,_⟩
   ·rw[q1,idxS_none _ _ _ o4]at hj
    simp only[]at hj
    rw[idxS_none _ _ _ o5]at hj;cases hj
   ·obtain⟨j',e'⟩:=idxS_some x ts (0 + c.ls.length) q1
    rw[e']at hj
    have:=idxS_ge x ts _ _ e'
    simp only[Option.some.injEq]at hj
    rw[C0.len]at hlt;omega
   ·obtain⟨j',e'⟩:=idxS_some x ts (0 + c.ls.length) q1
    rw[e']at hj
    have:=idxS_ge x ts _ _ e'
    simp only[Option.some.injEq]at hj
    rw[C0.len]at hlt;omega
   ·rw[idxS_none _ _ _ q2]at hj
    simp only[]at hj
    have hsl2:c.slot x=some j:=by
     unfold Cx.slot
     rcases q1 with q1 | q1 <;> rw[q1] <;> exact hj
    have ok1:=((C0.inv x j sl hsl2 hsl).more i).keeps k
    have lk:∀ v,Look env h' x v→Look (compEnvC sc cl C env) h' x v:=by
     intro v l
     rcases l with ⟨a,_⟩ | ⟨_,a,ea,hc⟩
     ·rcases C0.e0.cel x q1 with b | b <;> rw[b]at a <;> cases a
     ·refine .inr ⟨?_,a,?_,hc⟩
      ·rw[kd,e,q0,Option.map_some]
       split
       ·exact .inl rfl
       ·exact .inr rfl
      ·exact(hfree x (by rw[← q0];exact mem_of_lookup e)).trans ea
    cases sl with
    | un=>trivial
    | va d=>exact let ⟨v,l,r⟩:=ok1;⟨v,lk v l,r⟩
    | ow d=>exact let ⟨v,l,r⟩:=ok1;⟨v,lk _ l,r⟩
   ·rcases q with q | q | q <;> rw[q]at q0 <;> cases q0
  ·rw[List.getElem?_append_right (by omega),List.getElem?_map]at hsl
   simp only[Option.map_eq_some_iff]at hsl
   obtain⟨_,_,rfl⟩:=hsl
   trivial
 ·show(ρ ++ ts.map fun _=>Sl.un).length=(c.ls++ts).length
  rw[List.length_append,List.length_append,List.length_map,C0.len]
section
set_option tactic.hygienic true
theorem idxS_at(x:Str):∀ (l:List Str) (k j:Nat),idxS x k l=some j→l[j - k]?=some x
 | [],k,j,h=>by simp [idxS]at h
 | y::l,k,j,h=>by
  simp only[idxS]at h
  cases q:idxS x (k + 1) l with
  | some j'=>
   rw[q]at h
   simp only[Option.some.injEq]at h
   subst h
   have:=idxS_ge x l _ _ q
   have ih:=idxS_at x l _ _ q
   rw[show j' - k=(j' - (k + 1)) + 1 by omega,List.getElem?_cons_succ];exact ih
  | none=>
   rw[q]at h
   simp only at h
   split at h
   ·rename_i e
    cases h
    have:x=y:=by simpa using e
    simp [this]
   ·cases h
theorem slot_idx{c:Cx}{x:Str}{i:Nat}(h:c.slot x=some i):idxS x 0 c.ls=some i:=by
 obtain⟨k,e,q⟩:=slot_kind h
 unfold Cx.slot at h
 rw[e]at h
 rcases q with rfl | rfl | rfl <;> exact h
theorem lookup_one{ts:List Str}{j:Nat}{x:Str}(h:ts[j]?=some x):j < ts.length:=(List.getElem?_eq_some_iff.mp h).1
theorem comp_bind{c:Cx}{sc:Scope}{ts:List Str}{env:Env}{ρ:Rho}{row:List V}(hl:ρ.length=c.ls.length)(C:Cond w (c.ofComp sc ts) env (ρ ++ ts.map fun _=>.un) N h)(hr:row.length=ts.length)
  (H:∀ (j:Nat) (x:Str) (d:V),ts[j]?=some x→row[j]?=some d→∃ v,Look env h x v∧Rb w N false h v d):
  Cond w (c.ofComp sc ts) env (ρ ++ row.map .va) N h:=by
 refine⟨C.e0,fun y j sl hs hsl=>?_,C.gi,C.live,?_,C.cel,C.dis⟩
 ·have hj:=slot_idx hs
  by_cases hlt:j < ρ.length
  ·rw[List.getElem?_append_left hlt]at hsl
   exact C.inv y j sl hs (by rw[List.getElem?_append_left hlt];exact hsl)
  ·have at_:=idxS_at y _ _ _ hj
   have hls:(c.ofComp sc ts).ls=c.ls++ts:=rfl
   rw[hls,Nat.sub_zero,List.getElem?_append_right (by omega),← hl]at at_
   rw[List.getElem?_append_right (by omega),List.getElem?_map,Option.map_eq_some_iff]at hsl
   obtain⟨d,hd,rfl⟩:=hsl
   obtain⟨v,l,r⟩:=H _ _ _ at_ hd
   exact⟨v,l,r⟩
 ·have:=C.len
  rw[List.length_append,List.length_map]at this ⊢
  rw[hr];exact this
theorem tests_ok{r:K.Rec}{c:Cx}(H:∀ e,TOk w A c e (r c false e)){env:Env}{ρ:Rho}{z:V}{X Y:K.R}{Q:Bool→Shared→Prop}:∀ (es:List PySem.Expr) (s:Shared),Cond w c env ρ N s.heap→K.tD (es.map (r c false)) ρ X Y=some z→
  (∀ t h' tk,(if t then X else Y)=some z→Kp s.heap h'→Q t (sx s h' tk))→
  wpAny (model prog w.w) A (forIn es true fun e r=>if r=true then do let ok ← PySem.isTrue e env (eval e env);pure (ForInStep.yield ok) else pure (ForInStep.yield r)) Q E s
 | [],s,C,h,out=>wpAny_pure (out true s.heap s.toks h (Kp.refl _))
 | e::es,s,C,h,out=>by
  rw[List.forIn_cons]
  simp only[if_true]
  refine wpAny_bind (wpAny_bind ((H e).go C h fun t h' tk hk kp=>wpAny_pure ?_))
  cases t with
  | true=>exact tests_ok H es (sx s h' tk) (C.keeps kp) hk fun t h'' tk' q k'=>out t h'' tk' q (kp.trans k')
  | false=>
   have done:∀ (es:List PySem.Expr) (s:Shared),Q false s→wpAny (model prog w.w) A (forIn es false fun e r=>if r=true then do let ok ← PySem.isTrue e env (eval e env);pure (ForInStep.yield ok) else pure (ForInStep.yield r)) Q E s:=by
    intro es
    induction es with
    | nil=>exact fun s q=>wpAny_pure q
    | cons e es ih=>
     intro s q
     rw[List.forIn_cons]
     simp only[Bool.false_eq_true,if_false]
     exact wpAny_bind (wpAny_pure (ih s q))
   exact done es _ (out false h' tk hk kp)
end
end Mine
end
noncomputable section
open PySem PySem.W PyProof.Rows
namespace Mine
variable{w:Pk}{A:Around}{s:Shared}
noncomputable def PlainTurn(e:PySem.Expr)(dp:Nat)(target elt:PySem.Expr)(ifs:List PySem.Expr):Prop:=∃ p:Pos,∀ (it acc:Value) (env:Env),compTurn e dp it acc env=(do
 standAt p
 match ← pyNext it with
 | none=>pure (.done .next)
 | some v=>
  letOwnedTupleGo target it v
  assign target env v
  let mut ok:=true
  for c in ifs do
   if ok then ok ← PySem.isTrue c env (eval c env)
  if ok then
   (do let _ ← call (.builtin "list.append") [acc,← eval elt env])
  again (.compLoop e dp it acc env))
theorem plain_one(elt target iter:PySem.Expr)(ifs:List PySem.Expr)(scope:Scope)(pos:Pos):PlainTurn (.ListComp elt [⟨target,iter,ifs,0⟩] scope pos) 0 target elt ifs:=⟨iter.pos,fun _ _ _=>rfl⟩
theorem plain_two(elt t1 i1 t2 i2:PySem.Expr)(ifs:List PySem.Expr)(scope:Scope)(pos:Pos):PlainTurn (.ListComp elt [⟨t1,i1,[],0⟩,⟨t2,i2,ifs,0⟩] scope pos) 1 t2 elt ifs:=⟨i2.pos,fun _ _ _=>rfl⟩
theorem codeAny_turns{target elt:PySem.Expr}{gens:List Comprehension}{sc:Scope}{pos:Pos}{dp:Nat}{ifs:List PySem.Expr}{it acc:Value}{env:Env}{R:Result→Shared→Prop}(hp:PlainTurn (.ListComp elt gens sc pos) dp target elt ifs)(I:Nat→Shared→Prop)
  (turn:∀ n s,I n s→wpAny (model prog w.w) A (pyNext it) (fun r s₁=>match r with
   | none=>R (.ok .next) s₁
   | some v=>wpAny (model prog w.w) A (letOwnedTupleGo target it v) (fun _ s₂'=>wpAny (model prog w.w) A (assign target env v) (fun _ s₂=>
     wpAny (model prog w.w) A (forIn ifs true fun c r=>if r=true then do let ok ← PySem.isTrue c env (eval c env);pure (ForInStep.yield ok) else pure (ForInStep.yield r)) (fun ok s₃=>
      if ok=true then wpAny (model prog w.w) A (eval elt env) (fun x s₄=>
       wpAny (model prog w.w) A (call (.builtin "list.append") [acc,x]) (fun _ s₅=>∃ m,m < n∧I m s₅) E s₄) E s₃
      else ∃ m,m < n∧I m s₃) E s₂) E s₂') E s₁) E s)
  (n:Nat) (h:I n s):codeAny (model prog w.w) A (.compLoop (.ListComp elt gens sc pos) dp it acc env) R s:=by
 obtain⟨p,hp⟩:=hp
 refine codeAny_loop rfl I (fun n s hI=>?_) n h
 show wpAny _ A ((compTurn (.ListComp elt gens sc pos) dp it acc env).onRaise (fun x=>do noteFrame x env;theTreesLotGoes x)) _ _ s
 refine wpAny_noted ?_
 rw[hp]
 refine wpAny_bind (wpAny_standAt (wpAny_bind (wpAny_mono (turn n s hI) (fun r s₁ h₁=>?_) noE)))
 cases r with
 | none=>exact wpAny_pure h₁
 | some v=>
  refine wpAny_bind (wpAny_mono h₁ (fun _ s₂' h₂'=>?_) noE)
  refine wpAny_bind (wpAny_mono h₂' (fun _ s₂ h₂=>wpAny_bind (wpAny_mono h₂ (fun ok s₃ h₃=>?_) noE)) noE)
  cases ok with
  | false=>exact wpAny_pure ⟨rfl,h₃⟩
  | true=>
   exact wpAny_bind (wpAny_bind (wpAny_mono h₃ (fun x s₄ h₄=>wpAny_bind (wpAny_mono h₄ (fun _ s₅ h₅=>wpAny_pure (wpAny_pure ⟨rfl,h₅⟩)) noE)) noE))
end Mine
end
noncomputable section
open PySem PySem.W PyProof.Rows
namespace Mine
variable{w:Pk}{A:Around}{s:Shared}{N N':Addr→Prop}{h h':Heap}
structure Stored(env:Env)(x:Str)(v:Value)(h h':Heap)(t:Addr):Prop where
 at_:t=env.locals∨(env.kindOf x=some .cell∧env.cells.lookup x=some t)
 kp:KpB (fun b=>b=t) h h'
 nt:NoT (fun b=>b=t) h
 lv:∃ o,h'.get? t=some o
 ns:∃ m,h'.Ns env.locals m
 cel:∀ y a,env.cells.lookup y=some a→(∃ u,h.IsCell a u)→∃ u,h'.IsCell a u
 look:Look env h' x v
 rest:∀ y u,y≠x→Look env h y u→Look env h' y u
theorem ns_live{h:Heap}{a:Addr}{m:Str→Option Value}(n:h.Ns a m):∃ o,h.get? a=some o∧¬ (o.cls=.type "tuple"∧∃ vs n,o.data=.seq vs n):=by
 obtain⟨o,es,ep,ho,hd,_⟩:=n
 exact⟨o,ho,fun ⟨_,vs,nn,q⟩=>by rw[hd]at q;cases q⟩
theorem cell_live{h:Heap}{a:Addr}{v:Option Value}(n:h.IsCell a v):∃ o,h.get? a=some o∧¬ (o.cls=.type "tuple"∧∃ vs n,o.data=.seq vs n):=by
 obtain⟨o,ho,hd⟩:=n
 exact⟨o,ho,fun ⟨_,vs,nn,q⟩=>by rw[hd]at q;cases q⟩
theorem notT_of{a:Addr}(x:∃ o,h.get? a=some o∧¬ (o.cls=.type "tuple"∧∃ vs n,o.data=.seq vs n)):NoT (fun b=>b=a) h:=by
 obtain⟨o,ho,nt⟩:=x
 rintro b ob rfl e q
 rw[ho]at e;cases e;exact nt q
theorem store_ok{env:Env}{x:Str}{v:Value}{Q:Unit→Shared→Prop}(hk:env.scope.kind=.function)(kx:env.kindOf x=some .local∨env.kindOf x=some .cell)(ns:∃ m,s.heap.Ns env.locals m)
  (cc:env.kindOf x=some .cell→∃ a u,env.cells.lookup x=some a∧s.heap.IsCell a u) (d1:∀ y a,env.cells.lookup y=some a→a≠env.locals) (d2:∀ x y a,env.cells.lookup x=some a→env.cells.lookup y=some a→x=y)
  (q:∀ h' tk t,Stored env x v s.heap h' t→Q () (sx s h' tk)):wpAny (model prog w.w) A (storeName env x v) Q E s:=by
 rcases kx with kx | kx
 ·obtain⟨m,hm⟩:=ns
  refine wpAny_storeName_local kx hm (fun h' hn hs=>q h' _ env.locals ?_) (by rw[hk];rfl)
  refine⟨.inl rfl,fun a o na e=>hs.extBut a o na e,notT_of (ns_live hm),let ⟨o,e,_⟩:=ns_live hn;⟨o,e⟩,⟨_,hn⟩,fun y a e ⟨u,i⟩=>⟨u,i.sameBut hs (d1 y a e)⟩,.inl ⟨kx,_,hn,by simp⟩,fun y u ny l=>?_⟩
  rcases l with ⟨ky,m',hm',e⟩ | ⟨ky,a,e,i⟩
  ·refine .inl ⟨ky,_,hn,?_⟩
   simp only[ny,if_false]
   rw[hm.agree hm' y];exact e
  ·exact .inr ⟨ky,a,e,i.sameBut hs (d1 y a e)⟩
 ·obtain⟨a,u,e,i⟩:=cc kx
  refine wpAny_storeName_cell hk kx e i fun h' i' hs=>q h' s.toks a ?_
  obtain⟨m,hm⟩:=ns
  refine⟨.inr ⟨kx,e⟩,fun b o na eo=>hs.extBut b o na eo,notT_of (cell_live i),let ⟨o,e,_⟩:=cell_live i';⟨o,e⟩,⟨m,hm.sameBut hs (d1 x a e).symm⟩,fun y b eb ⟨u,ib⟩=>?_,.inr ⟨.inl kx,a,e,i'⟩,fun y u' ny l=>?_⟩
  ·by_cases q:b=a
   ·subst q;exact⟨_,i'⟩
   ·exact⟨u,ib.sameBut hs q⟩
  ·rcases l with ⟨ky,m',hm',e2⟩ | ⟨ky,b,eb,ib⟩
   ·exact .inl ⟨ky,m',hm'.sameBut hs (d1 x a e).symm,e2⟩
   ·exact .inr ⟨ky,b,eb,ib.sameBut hs fun q=>ny (d2 _ _ _ (q▸eb) e)⟩
inductive Unp(h:Heap):PySem.Expr→Value→List Str→List Value→Prop
 | one(x:Str)(p:Pos)(v:Value):Unp h (.Name x p) v [x] [v]
 | tup(es:List PySem.Expr)(xs:List Str)(k:Nat)(p:Pos)(T:Addr)(vs:List Value):namesOf es=some xs→xs.length=vs.length→h.IsTuple T vs.toArray→Unp h (.Tuple es k p) (.ref T) xs vs
noncomputable def SeqSt(w:Pk)(A:Around)(env:Env):List Str→List Value→(Shared→Prop)→Shared→Prop
 | [],[],Q,s=>Q s
 | x::xs,v::vs,Q,s=>wpAny (model prog w.w) A (storeName env x v) (fun _ s'=>SeqSt w A env xs vs Q s') E s
 | _,_,_,_=>False
theorem namesOf_cons{e:PySem.Expr}{es:List PySem.Expr}{xs:List Str}(h:namesOf (e::es)=some xs):∃ x p ys,e=.Name x p∧namesOf es=some ys∧xs=x::ys:=by
 cases e with
 | Name x p=>
  have h:(namesOf es).map (x :: ·)=some xs:=h
  rw[Option.map_eq_some_iff]at h
  obtain⟨ys,hy,rfl⟩:=h
  exact⟨x,p,ys,rfl,hy,rfl⟩
 | _=>cases h
theorem each_len{env:Env}:∀ (es:List PySem.Expr) (xs:List Str),namesOf es=some xs→(assignEach es env).length=xs.length∧(assignEach es env).findIdx? (·.1)=none
 | [],xs,h=>by cases h;exact⟨rfl,rfl⟩
 | e::es,xs,h=>by
  obtain⟨x,p,ys,rfl,hy,rfl⟩:=namesOf_cons h
  obtain⟨a,b⟩:=each_len (env:=env) es ys hy
  refine⟨congrArg Nat.succ a,?_⟩
  show List.findIdx? (·.1) ((false,assign (.Name x p) env)::assignEach es env)=none
  rw[List.findIdx?_cons]
  simp [b]
theorem seq_of{env:Env}{Q:Unit→Shared→Prop}:∀ (es:List PySem.Expr) (xs:List Str) (vs:List Value) (s:Shared),namesOf es=some xs→SeqSt w A env xs vs (Q ()) s→wpAny (model prog w.w) A (assignInOrder ((assignEach es env).map (·.2)) vs) Q E s
 | [],xs,vs,s,h,q=>by
  cases h
  cases vs with
  | nil=>exact wpAny_pure q
  | cons _ _=>exact q.elim
 | e::es,xs,vs,s,h,q=>by
  obtain⟨x,p,ys,rfl,hy,rfl⟩:=namesOf_cons h
  cases vs with
  | nil=>exact q.elim
  | cons v vs=>
   show wpAny _ _ (do holding vs (assign (.Name x p) env v);assignInOrder ((assignEach es env).map (·.2)) vs) _ _ _
   exact wpAny_bind (wpAny_holding (wpAny_assign_Name (wpAny_mono q (fun _ s' g=>seq_of es ys vs s' hy g) fun _ _ x=>x)))
theorem assign_unp{env:Env}{target:PySem.Expr}{v:Value}{xs:List Str}{vs:List Value}{Q:Unit→Shared→Prop}(hh:A.handled=none)(U:Unp s.heap target v xs vs)
  (q:∀ h',Kp s.heap h'→SeqSt w A env xs vs (Q ()) { s with heap:=h' }):wpAny (model prog w.w) A (assign target env v) Q E s:=by
 cases U with
 | one x p v=>exact wpAny_assign_Name (wpAny_mono (q s.heap (Kp.refl _)) (fun _ _ x=>x) fun _ _ x=>x)
 | tup es xs k p T vs hn hl ht=>
  obtain⟨a,b⟩:=each_len (env:=env) es xs hn
  exact wpAny_assign_Tuple hh ht (by rw[a,hl];simp) b fun h' hx=>seq_of es xs vs _ hn (q h' fun a o e=>hx a o (Nat.ne_of_lt (Heap.lt_size e)) e)
structure StoredL(env:Env)(xs:List Str)(vs:List Value)(h h':Heap):Prop where
 kp:KpB (fun b=>b=env.locals∨∃ x∈xs,env.kindOf x=some .cell∧env.cells.lookup x=some b) h h'
 ns:∃ m,h'.Ns env.locals m
 cel:∀ y a,env.cells.lookup y=some a→(∃ u,h.IsCell a u)→∃ u,h'.IsCell a u
 look:∀ (j:Nat) (x:Str) (v:Value),xs[j]?=some x→vs[j]?=some v→Look env h' x v
 rest:∀ y u,y∉xs→Look env h y u→Look env h' y u
theorem storeL_ok{env:Env}(hk:env.scope.kind=.function)(d1:∀ y a,env.cells.lookup y=some a→a≠env.locals)(d2:∀ x y a,env.cells.lookup x=some a→env.cells.lookup y=some a→x=y):
  ∀ (xs:List Str) (vs:List Value) (s:Shared) (Q:Shared→Prop),xs.length=vs.length→xs.Nodup→(∀ x∈xs,env.kindOf x=some .local∨env.kindOf x=some .cell)→(∃ m,s.heap.Ns env.locals m)→
   (∀ x∈xs,env.kindOf x=some .cell→∃ a u,env.cells.lookup x=some a∧s.heap.IsCell a u)→(∀ h' tk,StoredL env xs vs s.heap h'→Q (sx s h' tk))→SeqSt w A env xs vs Q s
 | [],[],s,Q,_,_,_,ns,_,q=>q s.heap s.toks ⟨fun _ _ _ e=>e,ns,fun _ _ _ i=>i,fun j _ _ e=>by simp at e,fun _ _ _ l=>l⟩
 | [],_::_,_,_,hl,_,_,_,_,_=>by cases hl
 | _::_,[],_,_,hl,_,_,_,_,_=>by cases hl
 | x::xs,v::vs,s,Q,hl,nd,kx,ns,cc,q=>by
  rw[List.nodup_cons]at nd
  refine store_ok hk (kx x (.head _)) ns (cc x (.head _)) d1 d2 fun h₁ t₁ t S=>?_
  refine storeL_ok hk d1 d2 xs vs (sx s h₁ t₁) Q (by simpa using hl) nd.2 (fun y m=>kx y (.tail _ m)) S.ns (fun y m ky=>?_) fun h' tk T=>q h' tk ?_
  ·obtain⟨a,u,e,i⟩:=cc y (.tail _ m) ky
   obtain⟨u',i'⟩:=S.cel y a e ⟨u,i⟩
   exact⟨a,u',e,i'⟩
  ·refine⟨fun b o nb e=>T.kp b o (fun qb=>nb ?_) (S.kp b o (fun qb=>nb ?_) e),T.ns,fun y a e i=>T.cel y a e (S.cel y a e i),fun j y u ej ev=>?_,fun y u ny l=>?_⟩
   ·rcases qb with qb | ⟨y,m,ky,e⟩
    ·exact .inl qb
    ·exact .inr ⟨y,.tail _ m,ky,e⟩
   ·subst qb
    rcases S.at_ with qt | ⟨ky,e⟩
    ·exact .inl qt
    ·exact .inr ⟨x,.head _,ky,e⟩
   ·cases j with
    | zero=>simp at ej ev;subst ej ev;exact T.rest _ _ nd.1 S.look
    | succ j=>exact T.look j y u (by simpa using ej) (by simpa using ev)
   ·rw[List.mem_cons,not_or]at ny
    exact T.rest y u ny.2 (S.rest y u ny.1 l)
noncomputable def NotOwn(N:Addr→Prop)(h:Heap)(b:Addr):Prop:=¬ N b∨∃ o,h.get? b=some o∧o.cls=.type "tuple"∧∃ vs n,o.data=.seq vs n
structure Itr(w:Pk)(A:Around)(bb:Bool)(target:PySem.Expr)(ts:List Str)(N:Addr→Prop)(h0 h1:Heap)(rows:List (List V))(I:Addr)(fp wr:List Addr)(P Md:Nat→Value→Heap→Prop)(St:Nat→Heap→Prop):Prop where
 turns:PySem.W.KTurns prog w.w A target I fp wr rows.length P Md St
 row:∀ i v h,i < rows.length→P i v h→∃ vs row,rows[i]?=some row∧Unp h target v ts vs∧RbL w N false h0 vs row
 st0:St 0 h1
 keep:Kp h0 h1
 new:∀ b∈wr,h0.get? b=none
 fpl:∀ b∈fp,∃ o,h1.get? b=some o
 it:I∈fp
 live:∀ i h,St i h→∀ b∈wr,∃ o,h.get? b=some o∧¬ (o.cls=.type "tuple"∧∃ vs n,o.data=.seq vs n)
 out:bb=false→∀ b∈fp,b∈wr∨NotOwn N h0 b
 self:∀ i (s:Shared) (Q:Value→Shared→Prop),St i s.heap→Q (.ref I) s→wpAny (model prog w.w) A (pyIter (.ref I)) Q E s
theorem Unp.len{target:PySem.Expr}{v:Value}{xs:List Str}{vs:List Value}(U:Unp h target v xs vs):xs.length=vs.length:=by
 cases U with
 | one=>rfl
 | tup _ _ _ _ _ _ _ hl _=>exact hl
theorem Itr.any{target:PySem.Expr}{ts:List Str}{bb:Bool}{h0 h1:Heap}{rows:List (List V)}{I:Addr}{fp wr:List Addr}{P Md:Nat→Value→Heap→Prop}{St:Nat→Heap→Prop}(T:Itr w A bb target ts N h0 h1 rows I fp wr P Md St):Itr w A true target ts N h0 h1 rows I fp wr P Md St:={ T with out:=fun q=>nomatch q }
noncomputable def Begins(w:Pk)(A:Around)(bb:Bool)(target:PySem.Expr)(ts:List Str)(N:Addr→Prop)(s:Shared)(x:Value)(rows:List (List V)):Prop:=∀ (Q:Value→Shared→Prop),
 (∀ I h1 fp wr P Md St,Itr w A bb target ts N s.heap h1 rows I fp wr P Md St→Q (.ref I) { s with heap:=h1 })→wpAny (model prog w.w) A (pyIter x) Q E s
end Mine
end
noncomputable section
open PySem PySem.W PyProof.Rows
namespace Mine
variable{w:Pk}{A:Around}{s:Shared}{N:Addr→Prop}{h h':Heap}
open scoped Classical
inductive Put(k v:V)(ps:List (V × V)):List (V × V)→Prop
 | old{j:Nat}{d:V}(h:ps[j]?=some (k,d)):Put k v ps (ps.set j (k,v))
 | new(h:k∉ps.map (·.1))(hk:∀ k' ∈ ps.map (·.1),kindK k=kindK k'):Put k v ps (ps++[(k,v)])
theorem put_is{k v:V}{ps:List (V × V)}:∀ {ps':List (V × V)},putK k v ps=some ps'→keyD 7 k=true∧Put k v ps ps':=by
 induction ps with
 | nil=>
  intro ps' h
  by_cases q:keyD 7 k=true
  ·cases (if_pos q).symm.trans h;exact⟨q,.new List.not_mem_nil fun _ m=>nomatch m⟩
  ·cases (if_neg q).symm.trans h
 | cons p ps ih=>
  intro ps' h
  obtain⟨a,d⟩:=p
  rw[putK]at h
  cases e:eqK k a with
  | none=>rw[e]at h;cases h
  | some t=>
   rw[e]at h
   have s:=eqK_spec e
   refine⟨s.1,?_⟩
   cases t with
   | true=>
    cases h
    rw[← s.2.1.mp rfl]
    exact .old (j:=0) rfl
   | false=>
    obtain⟨r,hr,rfl⟩:=Option.map_eq_some_iff.mp h
    cases (ih hr).2 with
    | @old j d' h1=>exact .old (j:=j + 1) h1
    | new h1 h2=>
     refine .new (fun m=>?_) fun k' m=>?_
     ·rcases List.mem_cons.mp m with q | m
      ·cases s.2.1.mpr q
      ·exact h1 m
     ·rcases List.mem_cons.mp m with q | m
      ·exact s.2.2.trans (congrArg kindK q.symm)
      ·exact h2 k' m
theorem zip_set{α β:Type}{x:α}{y:β}(a:List α)(b:List β)(j:Nat)(h:a[j]?=some x):(a.zip b).set j (x,y)=a.zip (b.set j y):=by
 induction a generalizing b j with
 | nil=>cases h
 | cons u a ih=>
  cases b with
  | nil=>rfl
  | cons v b=>
   cases j with
   | zero=>cases h;rfl
   | succ j=>exact congrArg (_ :: ·) (ih b j h)
theorem Put.cases{k v:V}{ks ds:List V}{ps':List (V × V)}(x:Put k v (ks.zip ds) ps')(hl:ks.length=ds.length):
  (∃ j:Nat,ks[j]?=some k∧ps'=ks.zip (ds.set j v))∨(k∉ks∧ps'=(ks++[k]).zip (ds++[v])):=by
 cases x with
 | old h=>exact .inl ⟨_,(zip_mem h).1,zip_set _ _ _ (zip_mem h).1⟩
 | new h _=>rw[fst_zip hl]at h;exact .inr ⟨h,by rw[List.zip_append hl];rfl⟩
theorem Put.kin{k v:V}{ks ds:List V}{ps':List (V × V)}(x:Put k v (ks.zip ds) ps')(hl:ks.length=ds.length):Kin k ks:=by
 cases x with
 | old h=>exact .inl (List.mem_of_getElem? (zip_mem h).1)
 | new _ h=>rw[fst_zip hl]at h;exact .inr h
section
variable{K:Type}[DecidableEq K]
theorem map_other{i:K}{v:Value}{is:List K}{vs:List Value}(h:i∉is):(is.zip vs).map (fun kv=>if kv.1=i then (kv.1,v) else kv)=is.zip vs:=by
 refine(List.map_congr_left fun p m=>?_).trans (List.map_id _)
 obtain⟨x,u⟩:=p
 exact if_neg fun q:x=i=>h (q▸(List.of_mem_zip m).1)
theorem stored_old{i:K}{v:Value}(is:List K)(vs:List Value)(j:Nat)(nd:is.Nodup)(hj:is[j]?=some i)(hl:is.length=vs.length):stored (is.zip vs) i v=is.zip (vs.set j v):=by
 have any:((is.zip vs).any fun kv=>decide (kv.1=i))=true:=by
  rw[List.any_eq_true]
  have hlt:j < vs.length:=hl▸(List.getElem?_eq_some_iff.mp hj).1
  exact⟨(i,vs[j]),List.mem_of_getElem? (List.getElem?_zip_eq_some.mpr ⟨hj,List.getElem?_eq_getElem hlt⟩),decide_eq_true rfl⟩
 rw[stored,if_pos any]
 clear any
 induction is generalizing vs j with
 | nil=>cases hj
 | cons x is ih=>
  cases vs with
  | nil=>cases hl
  | cons u vs=>
   rw[List.nodup_cons]at nd
   cases j with
   | zero=>
    cases hj
    rw[List.zip_cons_cons,List.map_cons,map_other nd.1,if_pos rfl];rfl
   | succ j=>
    have hj:is[j]?=some i:=hj
    rw[List.zip_cons_cons,List.map_cons,if_neg fun q:x=i=>nd.1 (q▸List.mem_of_getElem? hj),ih vs j nd.2 hj (Nat.succ.inj hl)];rfl
theorem stored_new{i:K}{v:Value}(is:List K)(vs:List Value)(hn:i∉is)(hl:is.length=vs.length):stored (is.zip vs) i v=(is++[i]).zip (vs++[v]):=by
 have any:¬ ((is.zip vs).any fun kv=>decide (kv.1=i))=true:=by
  rw[List.any_eq_true]
  rintro⟨⟨x,u⟩,m,e⟩
  simp at e
  subst e
  exact hn (List.of_mem_zip m).1
 rw[stored,if_neg any,List.zip_append hl];rfl
theorem back_pairs{knd:KeyKind prog w.w K}{a:Addr}{kvs:List (K × Value)}(x:h.DictOf knd a kvs):∃ es n,h.get? a=some (dct (List.toArray es) n)∧All2 (fun (e:DictEntry) (k:K)=>e.hash=knd.hash k∧knd.is k e.key=true) es (kvs.map (·.1))∧es.map (·.val)=kvs.map (·.2):=by
 obtain⟨o,es,ep,ho,⟨hc,hd,hs⟩,hdat,hk,hp0,nd⟩:=x
 obtain⟨es⟩:=es
 obtain⟨c,d,dt,sl⟩:=o
 simp only at hc hd hs hdat
 subst hc hd hs hdat
 refine⟨es,ep,ho,?_,?_⟩
 ·have hk':∀ e∈es,∃ k,knd.is k e.key=true∧e.hash=knd.hash k:=fun e m=>hk e (by simpa using m)
  have hp:Pairs knd es kvs:=hp0
  clear hp0 nd hk ho
  induction hp with
  | nil=>exact .nil
  | cons e1 e2 _ ih=>
   obtain⟨k,h1,h2⟩:=hk' _ (.head _)
   have:=knd.inj _ _ _ h1 e1
   subst this
   exact .cons ⟨h2,h1⟩ (ih fun e m=>hk' e (.tail _ m))
 ·have hp:Pairs knd es kvs:=hp0
  clear hp0 nd hk ho
  induction hp with
  | nil=>rfl
  | cons _ e2 _ ih=>rw[List.map_cons,List.map_cons,ih,e2]
end
theorem rb_dict_mk{a:Addr}{es:List DictEntry}{n:Nat}{ks ds:List V}(e:h.get? a=some (dct es.toArray n))(x:KeysOk w h es ks)(l:ks.length=ds.length)(r:RbL w N false h (es.map (·.val)) ds):Rb w N true h (.ref a) (.dict (ks.zip ds)):=by
 obtain⟨as,r,q⟩:=rdL_of r
 refine⟨a::as,.dict e x l r,fun c m n=>?_⟩
 rcases List.mem_cons.mp m with rfl | m
 ·exact⟨rfl,rfl⟩
 ·exact(q c m n).elim
theorem All2.set{α β:Type}{R:α→β→Prop}{as:List α}{bs:List β}(x:All2 R as bs){a:α}{b:β}(r:R a b):∀ j:Nat,All2 R (as.set j a) (bs.set j b):=by
 induction x with
 | nil=>exact fun _=>.nil
 | cons q y ih=>
  intro j
  cases j with
  | zero=>exact .cons r y
  | succ j=>exact .cons q (ih j)
theorem zip_snd{α β:Type}{a:List α}{b:List β}(h:a.length=b.length):(a.zip b).map (·.2)=b:=List.map_snd_zip (Nat.le_of_eq h.symm)
noncomputable abbrev KpBu(a:Addr)(h h':Heap):Prop:=∀ c o,c≠a→h.get? c=some o→h'.get? c=some o
structure PutOk(w:Pk)(N:Addr→Prop)(a:Addr)(h:Heap)(ps':List (V × V))(h':Heap):Prop where
 sb:Heap.SameBut a h h'
 rb:Rb w N true h' (.ref a) (.dict ps')
theorem PutOk.kpb{a:Addr}{ps':List (V × V)}(p:PutOk w N a h ps' h'):KpB (fun b=>b=a) h h':=fun b o nb e=>p.sb.extBut b o nb e
theorem not_tup_dict{a:Addr}{es:Array DictEntry}{n:Nat}(e:h.get? a=some (dct es n)):NoT (fun b=>b=a) h:=notT_of ⟨_,e,fun q=>absurd (Value.type.inj q.1) (by decide)⟩
section
variable{a:Addr}{es:List DictEntry}{n:Nat}{ks ds:List V}{kv d:V}{ps':List (V × V)}{vk v:Value}
theorem tup_back{xs:List (V × Addr × Value)}(D:h.DictOfH (tupKind w) a xs):∃ es n,h.get? a=some (dct (List.toArray es) n)∧KeysOk w h es (xs.map (·.1))∧es.map (·.val)=xs.map (·.2.2):=by
 obtain⟨o,es,ep,ho,⟨hc,hd,hs⟩,hdat,he,hi,nd⟩:=D
 obtain⟨es⟩:=es
 obtain⟨c,dd,dt,sl⟩:=o
 simp only at hc hd hs hdat
 subst hc hd hs hdat
 simp only at he
 refine⟨es,ep,ho,.kT ?_ nd,by rw[he,List.map_map];rfl⟩
 subst he
 clear ho nd
 induction xs with
 | nil=>exact .nil
 | cons x xs ih=>exact .cons ⟨rfl,x.2.1,rfl,hi x (.head _)⟩ (ih fun y m=>hi y (.tail _ m))
theorem putAt_other{k:V}{v:Value}{xs:List (V × Addr × Value)}(h:k∉xs.map (·.1)):xs.map (putAt k v)=xs:=
 (List.map_congr_left fun x m=>if_neg fun q=>h (List.mem_map.mpr ⟨x,m,q⟩)).trans (List.map_id _)
theorem putAt_old{k:V}{v:Value}(xs:List (V × Addr × Value))(j:Nat)(nd:(xs.map (·.1)).Nodup)(h:(xs.map (·.1))[j]?=some k):(xs.map (putAt k v)).map (·.1)=xs.map (·.1)∧(xs.map (putAt k v)).map (·.2.2)=(xs.map (·.2.2)).set j v:=by
 induction xs generalizing j with
 | nil=>cases h
 | cons x xs ih=>
  rw[List.map_cons,List.nodup_cons]at nd
  cases j with
  | zero=>
   cases h
   have e:putAt x.1 v x=(x.1,x.2.1,v):=if_pos rfl
   rw[List.map_cons,putAt_other nd.1,e]
   exact⟨rfl,rfl⟩
  | succ j=>
   have hj:(xs.map (·.1))[j]?=some k:=h
   have e:putAt k v x=x:=if_neg fun q:x.1=k=>nd.1 (q▸List.mem_of_getElem? hj)
   have ih:=ih j nd.2 hj
   rw[List.map_cons,e,List.map_cons,List.map_cons,ih.1,List.map_cons,List.map_cons,ih.2]
   exact⟨rfl,rfl⟩
theorem nodup_snoc{α:Type}{l:List α}{x:α}(nd:l.Nodup)(hn:x∉l):(l++[x]).Nodup:=by
 rw[List.nodup_append]
 exact⟨nd,List.pairwise_singleton _ _,fun y m z m' q=>hn (List.mem_singleton.mp m'▸q▸m)⟩
theorem zip_short{α β:Type}{a:List α}{b:List β}(h:a.length≤1000000):(a.zip b).length≤sizeLine:=by
 rw[List.length_zip];exact Nat.le_trans (Nat.min_le_left _ _) (Nat.le_trans h (by decide))
theorem put_vals{ws:List Value}{es':List DictEntry}{n':Nat}{ks' ds':List V}(e':h'.get? a=some (dct es'.toArray n'))(ko:KeysOk w h' es' ks')(l:ks'.length=ds'.length)(ev:es'.map (·.val)=ws)(r:RbL w N false h' ws ds'):Rb w N true h' (.ref a) (.dict (ks'.zip ds')):=
 rb_dict_mk e' ko l (ev▸r)
theorem put_flat{K:Type}[DecidableEq K]{knd:PySem.KeyKind prog w.w K}{f:K→V}(inj:∀ a b,f a=f b→a=b){is:List K}{ws:List Value}{k:K}{ds:List V}(nd:is.Nodup)(hl:(is.map f).length=ds.length)(rl:RbL w N false h' ws ds)(rv:Rb w N false h' v d)
  (mk:∀ {es:List DictEntry} {l:List K},l.Nodup→All2 (fun (e:DictEntry) (k:K)=>e.hash=knd.hash k∧knd.is k e.key=true) es l→KeysOk w h' es (l.map f))
  (x:Put (f k) d ((is.map f).zip ds) ps') (D:h'.DictOf knd a (stored (is.zip ws) k v)):Rb w N true h' (.ref a) (.dict ps'):=by
 have hzl:is.length=ws.length:=by rw[rl.length,← hl,List.length_map]
 obtain⟨es',n',e',al,ev⟩:=back_pairs D
 rcases x.cases hl with ⟨j,hj,rfl⟩ | ⟨hn,rfl⟩
 ·rw[List.getElem?_map]at hj
  obtain⟨i',hj',e2⟩:=Option.map_eq_some_iff.mp hj
  cases inj _ _ e2
  have hz:is.length=(ws.set j v).length:=hzl.trans List.length_set.symm
  rw[stored_old is _ j nd hj' hzl]at al ev
  rw[fst_zip hz]at al
  rw[zip_snd hz]at ev
  exact put_vals e' (mk nd al) (hl.trans List.length_set.symm) ev (rl.set rv j)
 ·have hn:k∉is:=fun m=>hn (List.mem_map_of_mem m)
  have hz:(is++[k]).length=(ws++[v]).length:=by rw[List.length_append,List.length_append,hzl];rfl
  rw[stored_new is _ hn hzl]at al ev
  rw[fst_zip hz]at al
  rw[zip_snd hz]at ev
  have hm:(is++[k]).map f=is.map f++[f k]:=List.map_append
  rw[← hm]
  exact put_vals e' (mk (nodup_snoc nd hn) al) (by rw[hm,List.length_append,List.length_append,hl];rfl) ev (rl.append (.cons rv .nil))
theorem put_tup{xs:List (V × Addr × Value)}{k:V}{c:Addr}(nd:(xs.map (·.1)).Nodup)(hl:(xs.map (·.1)).length=ds.length)(rl:RbL w N false h' (xs.map (·.2.2)) ds)(rv:Rb w N false h' v d)
  (x:Put k d ((xs.map (·.1)).zip ds) ps') (D:h'.DictOfH (tupKind w) a (storedH xs k c v)):Rb w N true h' (.ref a) (.dict ps'):=by
 obtain⟨es',n',e',ko',ev⟩:=tup_back D
 rcases x.cases hl with ⟨j,hj,rfl⟩ | ⟨hn,rfl⟩
 ·have hj':=hj
  rw[List.getElem?_map]at hj'
  obtain⟨y,hy,rfl⟩:=Option.map_eq_some_iff.mp hj'
  rw[storedH_old (atKey_of_get nd hy)]at ko' ev
  have q:=putAt_old (v:=v) xs j nd hj
  rw[q.1]at ko'
  rw[q.2]at ev
  exact put_vals e' ko' (hl.trans List.length_set.symm) ev (rl.set rv j)
 ·rw[storedH_new (atKey_none hn)]at ko' ev
  rw[List.map_append]at ko' ev
  exact put_vals e' ko' (by rw[List.length_append,List.length_append,hl];rfl) ev (rl.append (.cons rv .nil))
theorem op_put(F:Addr→Value→Value→Sem Unit)
  (Fi:∀ {K:Type} [DecidableEq K] (knd:PySem.KeyKind prog w.w K) (kvs:List (K × Value)) (k:K) (Q:Unit→Shared→Prop),knd.is k vk=true→s.heap.DictOf knd a kvs→kvs.length≤sizeLine→(∀ h' tk,h'.DictOf knd a (stored kvs k v)→Heap.SameBut a s.heap h'→Q () (sx s h' tk))→wpAny (model prog w.w) A (F a vk v) Q E s)
  (Fh:∀ (xs:List (V × Addr × Value)) (k:V) (c:Addr) (Q:Unit→Shared→Prop),vk=.ref c→TKey s.heap k c→s.heap.DictOfH (tupKind w) a xs→xs.length≤sizeLine→(∀ h' tk,h'.DictOfH (tupKind w) a (storedH xs k c v)→Heap.SameBut a s.heap h'→Q () (sx s h' tk))→wpAny (model prog w.w) A (F a vk v) Q E s)
  (hN:N a) (e:s.heap.get? a=some (dct es.toArray n)) (ko:KeysOk w s.heap es ks) (hl:ks.length=ds.length) (rl:RbL w N false s.heap (es.map (·.val)) ds) (hz:putK kv d (ks.zip ds)=some ps') (hsz:ks.length≤1000000)
  (rk:Rb w N false s.heap vk kv) (rv:Rb w N false s.heap v d) {Q:Unit→Shared→Prop} (q:∀ h' tk,PutOk w N a s.heap ps' h'→Q () (sx s h' tk)):wpAny (model prog w.w) A (F a vk v) Q E s:=by
 have hx:=put_is hz
 have hk:=hx.2.kin hl
 have keep:∀ {h':Heap},Heap.SameBut a s.heap h'→RbL w N false h' (es.map (·.val)) ds:=fun sb=>RbL.but (W:=fun b=>b=a) (fun b q=>q▸hN) (fun c o nc eo=>sb.extBut c o nc eo) (not_tup_dict e) rl
 have keep1:∀ {h':Heap},Heap.SameBut a s.heap h'→Rb w N false h' v d:=fun sb=>Rb.but (W:=fun b=>b=a) (fun b q=>q▸hN) (fun c o nc eo=>sb.extBut c o nc eo) (not_tup_dict e) rv
 cases kv with
 | int i=>
  obtain⟨t,rfl⟩:=rb_int_inv rk
  obtain⟨is,rfl,x,nd⟩:=ko_int ko hk
  refine Fi (intKind prog w.w) _ i Q (decide_eq_true rfl) (dictOf_int e x nd) (zip_short (List.length_map (f:=PyData.int)▸hsz)) fun h' tk D sb=>q h' tk ⟨sb,?_⟩
  exact put_flat (fun _ _ q=>PyData.int.inj q) nd hl (keep sb) (keep1 sb) (fun nd a=>.kI (a.mono fun e k ⟨h1,h2⟩=>⟨h1,Value.isInt_shape h2⟩) nd) hx.2 D
 | str i=>
  obtain⟨t,rfl⟩:=rb_str_inv rk
  obtain⟨is,rfl,x,nd⟩:=ko_str ko hk
  refine Fi (PySem.strKind prog w.w) _ i Q (beq_self_eq_true i) (dictOf_str e x nd) (zip_short (List.length_map (f:=PyData.str)▸hsz)) fun h' tk D sb=>q h' tk ⟨sb,?_⟩
  exact put_flat (fun _ _ q=>PyData.str.inj q) nd hl (keep sb) (keep1 sb) (fun nd a=>.kS (a.mono fun e k ⟨h1,h2⟩=>⟨h1,Value.isStrOf_shape h2⟩) nd) hx.2 D
 | tuple ts=>
  obtain⟨x,nd⟩:=ko_tup ko hk
  obtain⟨xs,hdo,rfl,hv'⟩:=dictOf_tup e x nd
  obtain⟨c,rfl,tk⟩:=tkey hx.1 rk
  refine Fh xs (.tuple ts) c Q rfl tk hdo (Nat.le_trans (List.length_map (f:=fun x:V × Addr × Value=>x.1)▸hsz) (by decide)) fun h' tk D sb=>q h' tk ⟨sb,?_⟩
  exact put_tup nd hl (hv'.symm▸keep sb) (keep1 sb) hx.2 D
 | _=>cases hx.1
theorem op_dictSet(hu:A.units + 80 < cLine)(hN:N a)(e:s.heap.get? a=some (dct es.toArray n))(ko:KeysOk w s.heap es ks)(hl:ks.length=ds.length)(rl:RbL w N false s.heap (es.map (·.val)) ds)(hz:putK kv d (ks.zip ds)=some ps')(hsz:ks.length≤1000000)
  (rk:Rb w N false s.heap vk kv) (rv:Rb w N false s.heap v d) {Q:Unit→Shared→Prop} (q:∀ h' tk,PutOk w N a s.heap ps' h'→Q () (sx s h' tk)):wpAny (model prog w.w) A (dictSet a vk v) Q E s:=
 op_put dictSet (fun knd kvs k Q hk D hz q=>wpAny_dictSet_pairs hk D (fun h' D' sb=>q h' _ D' sb) hz) (fun xs k c Q hv tk D hz q=>by subst hv;exact wpAny_dictSet_heap (show A.units + 70 < cLine by omega) tk D (fun h' D' sb=>q h' _ D' sb) hz) hN e ko hl rl hz hsz rk rv q
theorem op_setItemD(hu:A.units + 80 < cLine)(hN:N a)(e:s.heap.get? a=some (dct es.toArray n))(ko:KeysOk w s.heap es ks)(hl:ks.length=ds.length)(rl:RbL w N false s.heap (es.map (·.val)) ds)(hz:putK kv d (ks.zip ds)=some ps')(hsz:ks.length≤1000000)
  (rk:Rb w N false s.heap vk kv) (rv:Rb w N false s.heap v d) {Q:Unit→Shared→Prop} (q:∀ h' tk,PutOk w N a s.heap ps' h'→Q () (sx s h' tk)):wpAny (model prog w.w) A (setItem (.ref a) vk v) Q E s:=
 op_put (fun a=>setItem (.ref a)) (fun knd kvs k Q hk D hz q=>wpAny_setItem_pairs hk D (fun h' D' sb=>q h' _ D' sb) hz) (fun xs k c Q hv tk D hz q=>by subst hv;exact wpAny_setItem_heap (show A.units + 1 + 70 < cLine by omega) tk D (fun h' D' sb=>q h' _ D' sb) hz) hN e ko hl rl hz hsz rk rv q
end
end Mine
end
noncomputable section
open PySem PySem.W PyProof.Rows
namespace Mine
open K (R D DL X Orc Rec TgL)
variable{w:Pk}{A:Around}{s:Shared}{N N':Addr→Prop}{h h':Heap}
theorem getL{α:Type}{l:List α}{i:Nat}(hi:i < l.length):∃ x,l[i]?=some x:=⟨l[i],List.getElem?_eq_getElem hi⟩
theorem all2_at{α β:Type}{R:α→β→Prop}{as:List α}{bs:List β}(x:All2 R as bs){i:Nat}{a:α}(e:as[i]?=some a):∃ b,bs[i]?=some b∧R a b:=by
 have hi:i < bs.length:=x.length▸(List.getElem?_eq_some_iff.mp e).1
 obtain⟨b,hb⟩:=getL hi
 obtain⟨a',e',r⟩:=x.get hb
 cases e.symm.trans e'
 exact⟨b,hb,r⟩
theorem itr_one{x:Str}{p:Pos}{I:Addr}{fp wr:List Addr}{P:Nat→Value→Prop}{St:Nat→Heap→Prop}{ds:List V}(W:Walks prog w.w A I fp wr ds.length P St)(hP:∀ i v,P i v→i < ds.length→∃ d,ds[i]?=some d∧Rb w N false h v d)
  (st0:St 0 h') (keep:Kp h h') (new:∀ b∈wr,h.get? b=none) (fpl:∀ b∈fp,∃ o,h'.get? b=some o) (it:I∈fp) (live:∀ i h,St i h→∀ b∈wr,∃ o,h.get? b=some o∧¬ (o.cls=.type "tuple"∧∃ vs n,o.data=.seq vs n)) {bb:Bool} (fo:bb=false→∀ b∈fp,b∈wr∨NotOwn N h b):
  Itr w A bb (.Name x p) [x] N h h' (ds.map fun x=>[x]) I fp wr (fun i v _=>P i v) (fun i v h=>P i v∧St (i + 1) h) St where
 turns:=by
  rw[List.length_map]
  exact PySem.W.KTurns.ofWalks W fun i v s Q E _ q=>wpAny_of_eq (a:=()) rfl q
 row:=fun i v h hi hp=>by
  rw[List.length_map]at hi
  obtain⟨d,hd,r⟩:=hP i v hp hi
  exact⟨[v],[d],by rw[List.getElem?_map,hd];rfl,.one x p v,.cons r .nil⟩
 st0:=st0
 keep:=keep
 new:=new
 fpl:=fpl
 it:=it
 live:=live
 out:=fo
 self:=fun i s Q=>W.self i s Q E
theorem begins_list(hh:A.handled=none){bb:Bool}{d:V}{ds:List V}{x:Str}{p:Pos}{v:Value}(hd:itemsOf d=some ds)(r:Rb w N bb s.heap v d){Q:Value→Shared→Prop}
  (k:∀ I h1 fp wr P Md St,Itr w A bb (.Name x p) [x] N s.heap h1 (ds.map fun x=>[x]) I fp wr P Md St→(∀ a∈fp,a∈wr∨v=.ref a)→Q (.ref I) { s with heap:=h1 }):wpAny (model prog w.w) A (pyIter v) Q E s:=by
 have sub:∀ (i a:Addr),∀ b∈[i,a],b∈[i]∨Value.ref a=.ref b:=fun i a b hb=>by
  rcases List.mem_cons.mp hb with rfl | hb
  ·exact .inl (.head _)
  ·rw[List.mem_singleton]at hb;subst hb;exact .inr rfl
 have new1:∀ b∈[s.heap.objs.size],s.heap.get? b=none:=fun b hb=>by rw[List.mem_singleton]at hb;subst hb;exact none_size _
 have fpl:∀ {o:Obj} {a:Addr} {ob:Obj},o.isFreed=false→s.heap.get? a=some ob→∀ b∈[s.heap.objs.size,a],∃ o',(s.heap.push o).get? b=some o':=fun f e b hb=>by
  rcases List.mem_cons.mp hb with rfl | hb
  ·exact⟨_,Heap.get?_push_size _ f⟩
  ·rw[List.mem_singleton]at hb;subst hb;exact⟨_,kp_push _ _ _ _ e⟩
 have live:∀ {T:String} {h:Heap} {o:Obj},T ≠ "tuple"→h.get? s.heap.objs.size=some o→o.cls=.type T→∀ b∈[s.heap.objs.size],∃ o,h.get? b=some o∧¬ (o.cls=.type "tuple"∧∃ vs n,o.data=.seq vs n):=fun hT ho hc b hb=>by
  rw[List.mem_singleton]at hb;subst hb
  exact⟨_,ho,fun q=>by rw[hc]at q;exact absurd (Value.type.inj q.1) hT⟩
 cases d with
 | list l=>
  cases hd
  obtain⟨a,vs,n,rfl,e,q1,q2⟩:=rb_lst_inv r
  have hne:a≠s.heap.objs.size:=Nat.ne_of_lt (Heap.lt_size e)
  have W:=Walks.list (prog:=prog) (w:=w.w) hh s.heap.objs.size a hne vs.toArray
  rw[show vs.toArray.size=ds.length from q1.length]at W
  exact wpAny_pyIter_list (isList_of e) (k _ _ _ _ _ _ _ (itr_one W (fun i v hv _=>all2_at q1 (List.getElem?_toArray.symm.trans hv)) ⟨⟨_,Heap.get?_push_size _ rfl,rfl,rfl⟩,(isList_of e).push _⟩ (kp_push _ _) new1 (fpl rfl e) (.head _) (fun i h ⟨⟨o,ho,hc,_⟩,_⟩=>live (by decide) ho hc) fun qb b hb=>(sub _ _ b hb).elim .inl fun q=>.inr (.inl (by cases q;exact q2 qb))) (sub _ _))
 | tuple l=>
  cases hd
  obtain⟨a,vs,n,rfl,e,q1⟩:=rb_tup_inv r
  have hne:a≠s.heap.objs.size:=Nat.ne_of_lt (Heap.lt_size e)
  have W:=Walks.tuple (prog:=prog) (w:=w.w) hh s.heap.objs.size a hne vs.toArray
  rw[show vs.toArray.size=ds.length from q1.length]at W
  exact wpAny_pyIter_tuple ⟨_,e,rfl,n,rfl⟩ (k _ _ _ _ _ _ _ (itr_one W (fun i v hv _=>all2_at q1 (List.getElem?_toArray.symm.trans hv)) ⟨⟨_,Heap.get?_push_size _ rfl,rfl,rfl⟩,⟨_,kp_push _ _ _ _ e,rfl,n,rfl⟩⟩ (kp_push _ _) new1 (fpl rfl e) (.head _) (fun i h ⟨⟨o,ho,hc,_⟩,_⟩=>live (by decide) ho hc) fun qb b hb=>(sub _ _ b hb).elim .inl fun q=>.inr (.inr (by cases q;exact⟨_,e,rfl,_,_,rfl⟩))) (sub _ _))
 | _=>cases hd
theorem begins_seq(hh:A.handled=none){bb:Bool}{d:V}{ds:List V}{x:Str}{p:Pos}{v:Value}(hd:itemsOf d=some ds)(r:Rb w N bb s.heap v d):Begins w A bb (.Name x p) [x] N s v (ds.map fun x=>[x]):=
 fun Q k=>begins_list hh hd r fun I h1 fp wr P Md St T _=>k I h1 fp wr P Md St T
theorem upRange_get(a:Int)(n i:Nat)(h:i < n):(upRange a n)[i]?=some (.int (a + i)):=by
 induction n generalizing a i with
 | zero=>exact absurd h (Nat.not_lt_zero _)
 | succ n ih=>
  cases i with
  | zero=>exact congrArg (fun i=>some (PyData.int i)) (Int.add_zero a).symm
  | succ i=>exact(ih (a + 1) i (Nat.lt_of_succ_lt_succ h)).trans (congrArg (fun i=>some (PyData.int i)) (by omega))
theorem upRange_len(a:Int)(n:Nat):(upRange a n).length=n:=by
 induction n generalizing a with
 | zero=>rfl
 | succ n ih=>exact congrArg Nat.succ (ih _)
theorem downRange_get(a:Int)(n i:Nat)(h:i < n):(downRange a n)[i]?=some (.int (a - i)):=by
 induction n generalizing a i with
 | zero=>exact absurd h (Nat.not_lt_zero _)
 | succ n ih=>
  cases i with
  | zero=>exact congrArg (fun i=>some (PyData.int i)) (Int.sub_zero a).symm
  | succ i=>exact(ih (a - 1) i (Nat.lt_of_succ_lt_succ h)).trans (congrArg (fun i=>some (PyData.int i)) (by omega))
theorem downRange_len(a:Int)(n:Nat):(downRange a n).length=n:=by
 induction n generalizing a with
 | zero=>rfl
 | succ n ih=>exact congrArg Nat.succ (ih _)
theorem down_size(a b:Int):Builtin.Range.rangeSize a b (-1)=((a - b).toNat:Int):=by
 unfold Builtin.Range.rangeSize
 rw[if_neg (by decide)]
 by_cases h:a > b
 ·rw[if_pos h,show(-(-1:Int))=1 from rfl,Int.ediv_one];omega
 ·rw[if_neg h];omega
theorem small_down{a b:Int}(ha:-(2 ^ 62)≤a)(ha':a < 2 ^ 62)(hb:-(2 ^ 62)≤b)(hb':b < 2 ^ 62):Builtin.Range.small a b (-1)=true:=by
 unfold Builtin.Range.small
 rw[down_size]
 simp only[Builtin.Range.rangeFitsLong,Bool.and_eq_true,Bool.or_eq_true,decide_eq_true_eq,beq_iff_eq,show ¬ ((-1:Int) > 0) by decide,if_false]
 omega
theorem begins_range{bb:Bool}{x:Str}{p:Pos}{r:Addr}{a b c:Int}{t u v:Tok}{ds:List V}{n:Nat}(hh:A.handled=none)(hr:IsRange s.heap r a b c t u v)(hs:Builtin.Range.small a b c=true)(hn:Builtin.Range.rangeSize a b c=(n:Int))(hl:ds.length=n)
  (hd:∀ i,i < n→ds[i]?=some (.int (a + i * c))):Begins w A bb (.Name x p) [x] N s (.ref r) (ds.map fun x=>[x]):=by
 intro Q k
 subst hl
 have W:Walks prog w.w A s.heap.objs.size [s.heap.objs.size] [s.heap.objs.size] ds.length (fun i v=>i < ds.length∧∃ t,v=.int (a + i * c) t) (fun i h=>IsRangeIter h s.heap.objs.size (a + (i:Nat) * c) ((ds.length:Int) - (i:Nat)) c):=(Walks.range hh s.heap.objs.size a c ds.length).bound
 refine wpAny_pyIter_range hr hs (k _ _ _ _ _ _ _ (itr_one W (fun i v ⟨hi,t,e⟩ _=>⟨_,hd i hi,by rw[e];exact rb_int _ _ _ _⟩) ?_ (kp_push _ _) ?_ ?_ (.head _) ?_ fun _ b hb=>.inl hb))
 ·have:=Heap.get?_push_size s.heap (o:={ cls:=.type "range_iterator",data:=.fields #[rawInt a,rawInt (Builtin.Range.rangeSize a b c),rawInt c] }) rfl
  rw[hn]at this ⊢
  simpa using this
 ·intro b hb;rw[List.mem_singleton]at hb;subst hb;exact none_size _
 ·intro b hb;rw[List.mem_singleton]at hb;subst hb;exact⟨_,Heap.get?_push_size _ rfl⟩
 ·intro i h st b hb
  rw[List.mem_singleton]at hb;subst hb
  exact⟨_,st,fun q=>absurd (Value.type.inj q.1) (by decide)⟩
end Mine
end
noncomputable section
open PySem PySem.W PyProof.Rows
namespace Mine
open K (R D DL X Orc Rec TgL)
variable{w:Pk}{A:Around}{O:Orc}{r:Rec}{c:Cx}{s:Shared}{N N':Addr→Prop}{h h':Heap}{env:Env}{ρ:Rho}{z:V}
theorem enum_get(l:List V)(a:Int)(i:Nat)(d:V)(h:l[i]?=some d):(enumFrom a l)[i]?=some [.int (a + i),d]:=by
 induction l generalizing a i with
 | nil=>cases h
 | cons x l ih=>
  cases i with
  | zero=>cases h;exact congrArg (fun i=>some [PyData.int i,d]) (Int.add_zero a).symm
  | succ i=>exact(ih (a + 1) i h).trans (congrArg (fun i=>some [PyData.int i,d]) (by omega))
theorem enum_len(l:List V)(a:Int):(enumFrom a l).length=l.length:=by
 induction l generalizing a with
 | nil=>rfl
 | cons x l ih=>exact congrArg Nat.succ (ih _)
theorem itr_rev{bb:Bool}{x:Str}{p:Pos}(hh:A.handled=none){l:Addr}{vs:List Value}{n:Nat}{ds:List V}(e:h.get? l=some (lst vs.toArray n))(q:RbL w N false h vs ds)(qN:bb=false→¬ N l):
  ∃ P Md St,Itr w A bb (.Name x p) [x] N h (h.push (revObj l ((vs.toArray.size:Int) - 1))) (ds.reverse.map fun x=>[x]) h.objs.size [h.objs.size,l] [h.objs.size] P Md St:=by
 have hne:l≠h.objs.size:=Nat.ne_of_lt (Heap.lt_size e)
 have W:=Walks.listRev (prog:=prog) (w:=w.w) hh h.objs.size l hne vs.toArray
 rw[show vs.toArray.size=ds.reverse.length by simp [q.length]]at W
 refine⟨_,_,_,itr_one W (fun i v hv hi=>?_) ⟨Nat.zero_le _,⟨_,Heap.get?_push_size _ rfl,rfl,?_⟩,(isList_of e).push _⟩ (kp_push _ _) ?_ ?_ (.head _) ?_ ?_⟩
 ·rw[List.length_reverse]at hi hv
  have hv':vs[ds.length - 1 - i]?=some v:=by simpa using hv
  obtain⟨d,hd,r⟩:=all2_at q hv'
  exact⟨d,by rw[List.getElem?_reverse hi];exact hd,r⟩
 ·rw[show vs.toArray.size=ds.reverse.length by simp [q.length]];simp;rfl
 ·intro b hb;rw[List.mem_singleton]at hb;subst hb;exact none_size _
 ·intro b hb
  rcases List.mem_cons.mp hb with rfl | hb
  ·exact⟨_,Heap.get?_push_size _ rfl⟩
  ·rw[List.mem_singleton]at hb;subst hb;exact⟨_,kp_push _ _ _ _ e⟩
 ·rintro i h ⟨_,⟨o,ho,hc,hd⟩,_⟩ b hb
  rw[List.mem_singleton]at hb;subst hb
  exact⟨o,ho,fun q=>by rw[hc]at q;exact absurd (Value.type.inj q.1) (by decide)⟩
 ·intro qb b hb
  rcases List.mem_cons.mp hb with rfl | hb
  ·exact .inl (.head _)
  ·rw[List.mem_singleton]at hb;subst hb;exact .inr (.inl (qN qb))
theorem itr_tup{es:List PySem.Expr}{xs:List Str}{kk:Nat}{p:Pos}{I:Addr}{fp wr:List Addr}{Pt:Nat→Array Value→Prop}{St:Nat→Heap→Prop}{Mid:Nat→Addr→Heap→Prop}{rows:List (List V)}(hn:namesOf es=some xs)
  (W:WalksU prog w.w A I fp wr rows.length Pt St Mid) (hP:∀ i vals,Pt i vals→i < rows.length→∃ vs row,vals=vs.toArray∧rows[i]?=some row∧xs.length=vs.length∧RbL w N false h vs row)
  (st0:St 0 h') (keep:Kp h h') (new:∀ b∈wr,h.get? b=none) (fpl:∀ b∈fp,∃ o,h'.get? b=some o) (it:I∈fp) (live:∀ i h,St i h→∀ b∈wr,∃ o,h.get? b=some o∧¬ (o.cls=.type "tuple"∧∃ vs n,o.data=.seq vs n)) {bb:Bool} (fo:bb=false→∀ b∈fp,b∈wr∨NotOwn N h b):
  ∃ P Md,Itr w A bb (.Tuple es kk p) xs N h h' rows I fp wr P Md St:=
 ⟨_,_,{
  turns:=PySem.W.KTurns.ofWalksU W
  row:=fun i v h hi hp=>by
   refine bc fun gG=>?_
   obtain⟨T,vals,rfl,hp,ht⟩:=hp
   obtain⟨vs,row,rfl,hr,hl,rr⟩:=hP i vals hp hi
   refine gG ?_
   exact⟨vs,row,hr,.tup es xs kk p T vs hn hl ht,rr⟩
  st0:=st0,keep:=keep,new:=new,fpl:=fpl,it:=it,live:=live,out:=fo,self:=fun i s Q=>W.self i s Q E }⟩
theorem itr_enum{bb:Bool}{es:List PySem.Expr}{xs:List Str}{kk:Nat}{p:Pos}(hn:namesOf es=some xs)(h2:xs.length=2)(hh:A.handled=none){l:Addr}{vs:List Value}{n:Nat}{ds:List V}(e:h.get? l=some (lst vs.toArray n))(q:RbL w N false h vs ds)
  (he:IsEnum h' (h.objs.size + 1) h.objs.size 0 .none) (hit:h'.IsListIter h.objs.size l 0) (kp:Kp h h') (qN:bb=false→¬ N l):
  ∃ P Md St,Itr w A bb (.Tuple es kk p) xs N h h' (enumFrom 0 ds) (h.objs.size + 1) [h.objs.size + 1,h.objs.size,l] [h.objs.size + 1,h.objs.size] P Md St:=by
 have hlt:=Heap.lt_size e
 have W:=(WalksT.enumerate (prog:=prog) (w:=w.w) hh (h.objs.size + 1) h.objs.size l (Nat.succ_ne_self _) (Nat.ne_of_lt (Nat.lt_succ_of_lt hlt)) (Nat.ne_of_lt hlt) vs.toArray).toU
 rw[show vs.toArray.size=(enumFrom 0 ds).length by simp [q.length,enum_len]]at W
 have none1:h.get? (h.objs.size + 1)=none:=by
  cases q:h.get? (h.objs.size + 1) with
  | none=>rfl
  | some o=>exact absurd (Heap.lt_size q) (Nat.not_lt.mpr (Nat.le_succ _))
 have R:=itr_tup (bb:=bb) (N:=N) (h:=h) (h':=h') (kk:=kk) (p:=p) hn W (fun i vals hp hi=>?_) ⟨⟨_,he⟩,hit,(isList_of e).at fun o x=>kp _ _ x⟩ kp (fun b hb=>?_) (fun b hb=>?_) (.head _) ?_ fun qb b hb=>?_
 ·obtain⟨P,Md,R⟩:=R
  exact⟨P,Md,_,R⟩
 ·refine bc fun gG=>?_
  obtain⟨t,x,hx,rfl⟩:=hp
  have hx':vs[i]?=some x:=by simpa using hx
  obtain⟨d,hd,r⟩:=all2_at q hx'
  refine gG ?_
  exact⟨[.int i t,x],[.int (0 + i),d],rfl,enum_get ds 0 i d hd,h2,.cons (by rw[Int.zero_add];exact rb_int _ _ _ _) (.cons r .nil)⟩
 ·rcases List.mem_cons.mp hb with rfl | hb
  ·exact none1
  ·rw[List.mem_singleton]at hb;subst hb;exact none_size _
 ·rcases List.mem_cons.mp hb with rfl | hb
  ·exact⟨_,he⟩
  ·rcases List.mem_cons.mp hb with rfl | hb
   ·obtain⟨o,ho,_⟩:=hit;exact⟨o,ho⟩
   ·rw[List.mem_singleton]at hb;subst hb;exact⟨_,kp _ _ e⟩
 ·rintro i h ⟨⟨old,ho⟩,⟨o,ho2,hc,_⟩,_⟩ b hb
  rcases List.mem_cons.mp hb with rfl | hb
  ·exact⟨_,ho,fun q=>absurd (Value.type.inj q.1) (by decide)⟩
  ·rw[List.mem_singleton]at hb;subst hb
   exact⟨o,ho2,fun q=>by rw[hc]at q;exact absurd (Value.type.inj q.1) (by decide)⟩
 ·rcases List.mem_cons.mp hb with rfl | hb
  ·exact .inl (.head _)
  ·rcases List.mem_cons.mp hb with rfl | hb
   ·exact .inl (.tail _ (.head _))
   ·rw[List.mem_singleton]at hb;subst hb;exact .inr (.inl (qN qb))
section
variable{it d:Addr}{i ep:Nat}{es:List DictEntry}{ok ov:Value}{Q:Option Value→Shared→Prop}
theorem items_next{E:Value→Shared→Prop}{e:DictEntry}(hit:IsItemIter s.heap it d i es.length ep ok ov)(hd:s.heap.get? d=some (dct es.toArray ep))(hx:es[i]?=some e)
  (hQ:∀ h',IsItemIterOut h' it d (i + 1) es.length ep e.key e.val s.heap.objs.size→h'.get? s.heap.objs.size=some { cls:=.type "tuple",data:=.seq #[e.key,e.val] }→
   h'.objs.size=s.heap.objs.size + 1→(∀ b o,b≠it→s.heap.get? b=some o→h'.get? b=some o)→Q (some (.ref s.heap.objs.size)) { s with heap:=h' }):
  wpAny (model prog w.w) A (pyNext (.ref it)) Q E s:=by
 have hT:s.TypeIs (.ref it) "dict_itemiterator":=⟨_,hit,rfl⟩
 have hlt:i < es.length:=by
  rcases Nat.lt_or_ge i es.length with q | q
  ·exact q
  ·rw[List.getElem?_eq_none q]at hx;cases hx
 have hxa:es.toArray[i]?=some e:=by simpa using hx
 unfold pyNext
 refine wpAny_bind (wpAny_attempt (wpAny_callSpecial?_slot (name:=Str.ofString "__next__") hT F.slot_dict_itemiterator_next
  (wpAny_call_entry F.slot_dict_itemiterator_next hT F.entry_dict_itemiterator_next ?_ (F.args_dict_itemiterator_next_1 _))))
 refine wpAny_bind (wpAny_pure (wpAny_bind (wpAny_bind ?_)))
 first | refine wpAny_bind (wpAny_typeNameOfWhole_itemiter hT (wpAny_pure ?_)) | refine wpAny_bind (wpAny_typeNameOf_itemiter hT (wpAny_pure ?_))
 refine wpAny_bind (wpAny_fieldsOf hit rfl ?_)
 rw[show Builtin.Dict_items.ownsTuple "dict_itemiterator" = true from by decide,if_pos rfl]
 show wpAny _ _ (if (Value.ref d==Value.none)=true then _ else _) _ _ _
 rw[if_neg (show ¬ ((Value.ref d==Value.none)=true) from Bool.false_ne_true)]
 refine wpAny_bind (wpAny_pure (wpAny_bind (wpAny_dictEntries hd rfl ?_)))
 rw[if_neg (by simp)]
 refine wpAny_bind (wpAny_pure (wpAny_bind (wpAny_dictEpoch hd rfl ?_)))
 rw[if_neg (by simp)]
 refine wpAny_pure ?_
 dsimp only
 rw[if_neg (show ¬ ((i:Int) < 0) from Int.not_lt.mpr (Int.natCast_nonneg _)),Int.toNat_natCast,hxa]
 dsimp only
 refine wpAny_bind ?_
 first | refine wpAny_bind (wpAny_typeNameOfWhole_itemiter hT (wpAny_pure ?_)) | refine wpAny_bind (wpAny_typeNameOf_itemiter hT (wpAny_pure ?_))
 refine wpAny_bind (wpAny_isOneOf_itemiter hT ?_)
 show wpAny _ _ (setField (.ref it) 3 (rawInt ((i:Int) + 1)) >>= _) _ _ s
 refine wpAny_bind (wpAny_setField_rec hit (by simp) fun h₁ he₁ hs₁=>?_)
 have hz₁:h₁.objs.size=s.heap.objs.size:=hs₁.1
 have he₁:IsItemIter h₁ it d (i + 1) es.length ep ok ov:=by
  have e:((i + 1:Nat):Int)=(i:Int) + 1:=by omega
  unfold IsItemIter;rw[e];simpa [rawInt] using he₁
 have hT₁:({ s with heap:=h₁ }:Shared).TypeIs (.ref it) "dict_itemiterator":=⟨_,he₁,rfl⟩
 refine wpAny_bind (wpAny_holding (wpAny_bind (wpAny_isOneOf_itemiter hT₁ (wpAny_bind (wpAny_isOneOf_itemiter hT₁ ?_)))))
 show wpAny _ _ (Builtin.Dict_items.pairFromOwner (.ref it) 6 e.key e.val) _ _ { s with heap:=h₁ }
 unfold Builtin.Dict_items.pairFromOwner
 refine wpAny_bind (wpAny_newTuple ?_)
 have he₂:IsItemIter (h₁.push { cls:=.type "tuple",data:=.seq #[e.key,e.val] }) it d (i + 1) es.length ep ok ov:=Heap.get?_push_of_some _ he₁
 have hil:it < s.heap.objs.size:=Heap.lt_size hit
 have ne:s.heap.objs.size≠it:=Nat.ne_of_gt hil
 have ht₂:(h₁.push { cls:=.type "tuple",data:=.seq #[e.key,e.val] }).get? s.heap.objs.size=some { cls:=.type "tuple",data:=.seq #[e.key,e.val] }:=by rw[← hz₁];exact Heap.get?_push_size _ rfl
 have hz₂:(h₁.push { cls:=.type "tuple",data:=.seq #[e.key,e.val] }).objs.size=s.heap.objs.size + 1:=by rw[Heap.size_push,hz₁]
 have hk₂:∀ b o,b≠it→s.heap.get? b=some o→(h₁.push { cls:=.type "tuple",data:=.seq #[e.key,e.val] }).get? b=some o:=fun b o hb x=>Heap.get?_push_of_some _ (hs₁.extBut b o hb x)
 show wpAny _ _ (Builtin.Dict_items.ownedTupleIsFree (.ref it) >>= _) _ _ { s with heap:=h₁.push { cls:=.type "tuple",data:=.seq #[e.key,e.val] } }
 rw[hz₁]
 revert he₂ ht₂ hz₂ hk₂
 generalize h₁.push { cls:=.type "tuple",data:=.seq #[e.key,e.val] }=h₂
 intro he₂ ht₂ hz₂ hk₂
 refine wpAny_bind ?_
 unfold Builtin.Dict_items.ownedTupleIsFree
 refine wpAny_bind (wpAny_field he₂ rfl (x:=.none) rfl (wpAny_pure ?_))
 rw[if_pos rfl]
 refine wpAny_bind (wpAny_field he₂ rfl (x:=ok) rfl (wpAny_bind (wpAny_field he₂ rfl (x:=ov) rfl ?_)))
 refine wpAny_bind (wpAny_setField_rec he₂ (by simp) fun h₃ he₃ hs₃=>?_)
 replace hs₃:Heap.SameBut it h₂ h₃:=hs₃
 replace he₃:IsItemIter h₃ it d (i + 1) es.length ep e.key ov:=he₃
 refine wpAny_bind (wpAny_setField_rec he₃ (by simp) fun h₄ he₄ hs₄=>?_)
 replace hs₄:Heap.SameBut it h₃ h₄:=hs₄
 replace he₄:IsItemIter h₄ it d (i + 1) es.length ep e.key e.val:=he₄
 refine wpAny_bind (wpAny_setField_rec he₄ (by simp) fun h₅ he₅ hs₅=>?_)
 replace hs₅:Heap.SameBut it h₄ h₅:=hs₅
 replace he₅:IsItemIterOut h₅ it d (i + 1) es.length ep e.key e.val s.heap.objs.size:=he₅
 refine wpAny_bind (wpAny_setField_rec he₅ (by simp) fun h₆ he₆ hs₆=>?_)
 replace hs₆:Heap.SameBut it h₅ h₆:=hs₆
 replace he₆:IsItemIterOut h₆ it d (i + 1) es.length ep e.key e.val s.heap.objs.size:=he₆
 refine wpAny_bind (wpAny_letGo (wpAny_pure (wpAny_pure ⟨_,rfl,wpAny_pure (hQ h₆ he₆ ?_ ?_ ?_)⟩)))
 ·exact hs₆.extBut _ _ ne (hs₅.extBut _ _ ne (hs₄.extBut _ _ ne (hs₃.extBut _ _ ne ht₂)))
 ·show h₆.objs.size=s.heap.objs.size + 1
  rw[hs₆.1,hs₅.1,hs₄.1,hs₃.1,hz₂]
 ·exact fun b o hb x=>hs₆.extBut b o hb (hs₅.extBut b o hb (hs₄.extBut b o hb (hs₃.extBut b o hb (hk₂ b o hb x))))
theorem items_end{E:Value→Shared→Prop}(hh:A.handled=none)(hit:IsItemIter s.heap it d es.length es.length ep ok ov)(hd:s.heap.get? d=some (dct es.toArray ep))
  (hQ:∀ h',Heap.ExtBut it s.heap h'→Q none { s with heap:=h' }):wpAny (model prog w.w) A (pyNext (.ref it)) Q E s:=by
 have hT:s.TypeIs (.ref it) "dict_itemiterator":=⟨_,hit,rfl⟩
 unfold pyNext
 refine wpAny_bind (wpAny_attempt (wpAny_callSpecial?_slot (name:=Str.ofString "__next__") hT F.slot_dict_itemiterator_next
  (wpAny_call_entry F.slot_dict_itemiterator_next hT F.entry_dict_itemiterator_next ?_ (F.args_dict_itemiterator_next_1 _))))
 refine wpAny_bind (wpAny_pure (wpAny_bind (wpAny_bind ?_)))
 first | refine wpAny_bind (wpAny_typeNameOfWhole_itemiter hT (wpAny_pure ?_)) | refine wpAny_bind (wpAny_typeNameOf_itemiter hT (wpAny_pure ?_))
 refine wpAny_bind (wpAny_fieldsOf hit rfl ?_)
 rw[show Builtin.Dict_items.ownsTuple "dict_itemiterator" = true from by decide,if_pos rfl]
 show wpAny _ _ (if (Value.ref d==Value.none)=true then _ else _) _ _ _
 rw[if_neg (show ¬ ((Value.ref d==Value.none)=true) from Bool.false_ne_true)]
 refine wpAny_bind (wpAny_pure (wpAny_bind (wpAny_dictEntries hd rfl ?_)))
 rw[if_neg (by simp)]
 refine wpAny_bind (wpAny_pure (wpAny_bind (wpAny_dictEpoch hd rfl ?_)))
 rw[if_neg (by simp)]
 refine wpAny_pure ?_
 dsimp only
 rw[if_neg (show ¬ ((es.length:Int) < 0) from Int.not_lt.mpr (Int.natCast_nonneg _)),Int.toNat_natCast,show es.toArray[es.length]?=none by simp]
 dsimp only
 refine wpAny_bind ?_
 first | refine wpAny_bind (wpAny_typeNameOfWhole_itemiter hT (wpAny_pure ?_)) | refine wpAny_bind (wpAny_typeNameOf_itemiter hT (wpAny_pure ?_))
 show wpAny _ _ (setField (.ref it) 2 .none >>= _) _ _ s
 refine wpAny_bind (wpAny_setField hit rfl (by simp) ?_)
 show wpAny _ _ (newExc (.type "StopIteration") [] >>= _) _ _ _
 refine wpAny_bind ?_
 unfold newExc newTuple
 refine wpAny_bind (wpAny_newObj_type ?_ (by size_fits))
 refine wpAny_bind (m:=firstArgMember _ _) (wpAny_of_eq (a:=Value.none) (by first | rfl | (simp only[firstArgMember];rfl)) ?_)
 refine wpAny_newObj_type ?_ (by size_fits)
 unfold raiseNew
 refine wpAny_bind (wpAny_handled ?_)
 rw[show A.in1.handled=none from hh]
 refine wpAny_bind (wpAny_pure (wpAny_throw ?_))
 refine wpAny_bind (wpAny_isInstance (T:="StopIteration") (b:=true) ⟨_,Heap.get?_push_size _ rfl,rfl⟩ isSubtype_stop ?_)
 exact wpAny_pure (hQ _ (((Heap.SameBut.update ..).extBut.push _).push _))
end
theorem items_walk{it d:Addr}{ep:Nat}{es:List DictEntry}(hh:A.handled=none)(hne:d≠it):
  WalksU prog w.w A it [it,d] [it] es.length (fun i vals=>∃ e,es[i]?=some e∧vals=#[e.key,e.val])
   (fun i h=>(∃ ok ov,IsItemIter h it d i es.length ep ok ov)∧h.get? d=some (dct es.toArray ep))
   (fun i T h=>(∃ ok ov,IsItemIterOut h it d (i + 1) es.length ep ok ov T)∧h.get? d=some (dct es.toArray ep)∧T≠it) where
 sub:=fun b hb=>by simp at hb;simp [hb]
 frame:=fun i h h' ⟨⟨ok,ov,he⟩,hm⟩ hk=>⟨⟨ok,ov,hk it (by simp) _ he⟩,hk d (by simp) _ hm⟩
 item:=fun i s Q E hi ⟨⟨ok,ov,he⟩,hm⟩ hQ=>by
  obtain⟨e,hx⟩:=getL hi
  refine items_next he hm hx fun h' ho hT hsz hk=>?_
  exact hQ s.heap.objs.size #[e.key,e.val] h' s.toks ⟨e,hx,rfl⟩ ⟨_,hT,rfl,_,rfl⟩ ⟨⟨_,_,ho⟩,hk d _ hne hm,Nat.ne_of_gt (Heap.lt_size he)⟩ fun b o hb x=>hk b o (fun q=>hb (by simp [q])) x
 go:=fun elts k pos i T s Q E ⟨⟨ok,ov,ho⟩,hm,hT⟩ hQ=>
  wpAny_letOwnedTupleGo_items ho fun h' he hs=>hQ h' ⟨⟨ok,ov,he⟩,hs.extBut _ _ hne hm⟩ fun b o hb x=>hs.extBut b o (fun q=>hb (by simp [q])) x
 apart:=fun i T h ⟨_,_,hT⟩ hm=>by simp at hm;exact hT hm
 done:=fun s Q E ⟨⟨ok,ov,he⟩,hm⟩ hQ=>items_end hh he hm fun h' hx=>hQ h' s.toks fun b o hb x=>hx b o (fun q=>hb (by simp [q])) x
 self:=fun i s Q E ⟨⟨ok,ov,he⟩,_⟩ hQ=>PySem.W.kcp_self he hQ
theorem items_view{d:Addr}{ep:Nat}{es:List DictEntry}{Q:Value→Shared→Prop}(hd:s.heap.get? d=some (dct es.toArray ep))(hsys:(d==sysModules)=false)
  (hQ:Q (.ref s.heap.objs.size) { s with heap:=s.heap.push { cls:=.type "dict_items",data:=.fields #[.ref d] } }):wpAny (model prog w.w) A (call (.builtin "dict.items") [.ref d]) Q E s:=by
 have hT:s.TypeIs (.ref d) "dict":=⟨_,hd,rfl⟩
 refine wpAny_call_entry F.slot_dict_items hT F.entry_dict_items ?_ (F.args_dict_items_1 _)
 unfold Builtin.«dict.items»
 refine wpAny_bind ?_
 unfold Builtin.Dict.noArgs
 refine wpAny_bind (wpAny_notOrdered_dict hT ?_)
 show wpAny _ _ (pure d) _ _ s
 refine wpAny_pure ?_
 show wpAny _ _ (Builtin.Dict.showsAll d >>= _) _ _ s
 unfold Builtin.Dict.showsAll
 rw[if_neg (by rw[hsys];exact Bool.false_ne_true)]
 exact wpAny_bind (wpAny_pure (wpAny_bind (wpAny_newObj_type (wpAny_pure ⟨_,rfl,hQ⟩))))
theorem items_iter{v d:Addr}{ep:Nat}{es:List DictEntry}{Q:Value→Shared→Prop}(hv:s.heap.IsItemsView v d)(hd:s.heap.get? d=some (dct es.toArray ep))(hsz:es.length≤1000000)
  (hQ:Q (.ref s.heap.objs.size) { s with heap:=s.heap.push { cls:=.type "dict_itemiterator",data:=.fields #[.none,.bool false,.ref d,.int 0 0,.int es.length 0,.int ep 0,.none,.none] } }):
  wpAny (model prog w.w) A (pyIter (.ref v)) Q E s:=by
 obtain⟨o,ho,hc,hdat⟩:=id hv
 refine wpAny_pyIter_slot hv.typeIs F.slot_dict_items_iter (wpAny_call_entry F.slot_dict_items_iter hv.typeIs F.entry_dict_items_iter ?_ (F.args_dict_items_iter_1 _))
 unfold Builtin.«dict_items.__iter__»
 refine wpAny_bind (wpAny_pure (wpAny_bind ?_))
 unfold Builtin.Dict_items.dictOf
 refine wpAny_bind (wpAny_field ho hdat (x:=.ref d) rfl (wpAny_pure (wpAny_bind ?_)))
 unfold Builtin.Dict_items.newIterator
 refine wpAny_bind (wpAny_dictEntries hd rfl (wpAny_bind (wpAny_dictEpoch hd rfl ?_)))
 simp only[show Builtin.Dict_items.ownsTuple "dict_itemiterator" = true by decide,if_true]
 refine wpAny_newObj_type (wpAny_pure ⟨_,rfl,"dict_itemiterator",_,⟨_,Heap.get?_push_size _ rfl,rfl⟩,F.slot_dict_itemiterator_next.lookup,?_⟩)
  (by simp only[sizeOk,Builtin.Dict_items.ownedTupleFields,List.size_toArray,List.length_append,List.length_cons,List.length_nil,sizeLine_eq];omega)
 simpa [rawInt,Builtin.Dict_items.ownedTupleFields] using hQ
section
set_option tactic.hygienic true
noncomputable def Gives(w:Pk)(A:Around)(bb:Bool)(target:PySem.Expr)(ts:List Str)(N:Addr→Prop)(s:Shared)(rows:List (List V))(Q:Value→Shared→Prop):Prop:=
 ∀ I h0 h1 tk fp wr P Md St,Kp s.heap h0→Itr w A bb target ts N h0 h1 rows I fp wr P Md St→Q (.ref I) (sx s h1 tk)
theorem Gives.of_begins{bb:Bool}{target:PySem.Expr}{ts:List Str}{rows:List (List V)}{v:Value}{h₁:Heap}{t₁:Nat}{Q:Value→Shared→Prop}(kp:Kp s.heap h₁)(g:Gives w A bb target ts N s rows Q)(B:Begins w A bb target ts N (sx s h₁ t₁) v rows):
  wpAny (model prog w.w) A (pyIter v) Q E (sx s h₁ t₁):=B Q fun I h1 fp wr P Md St T=>g I h₁ h1 t₁ fp wr P Md St kp T
theorem weak_t{b:Bool}{v:Value}{d:V}(r:Rb w N b h v d):Rb w N true h v d:=by cases b with | true=>exact r | false=>exact r.weak true
theorem src0(hh:A.handled=none){b:Bool}{e:PySem.Expr}{x:Str}{p:Pos}{d:D}(H:DOk w A c b e d)(C:Cond w c env ρ N s.heap){k:List (List V)→R}(h:d ρ (fun y=>K.rowsK 0 [y] k)=some z){Q:Value→Shared→Prop}
  (out:∀ rows,k rows=some z→rows.length≤1000000→Gives w A b (.Name x p) [x] N s rows Q):wpAny (model prog w.w) A (eval e env) (fun v s₁=>wpAny (model prog w.w) A (pyIter v) Q E s₁) E s:=
 H.go C h fun y v h' tk hy kp rv=>by
  obtain⟨ds,hd,hl,hk⟩:=K.rows0 hy
  exact Gives.of_begins kp (out _ hk (List.length_map (f:=fun x:V=>[x])▸hl)) (begins_seq hh hd rv)
section
variable{bb:Bool}{x:Str}{p:Pos}{kk:List (List V)→R}{Q:Value→Shared→Prop}
theorem rng_go{p1 p2:Pos}{e1:PySem.Expr}{es:List PySem.Expr}{k:List V→R}(H:∀ e,DOk w A c true e (r c true e))(C:Cond w c env ρ N s.heap)(hg:c.isGlob s_range=true)(hns:(e1::es).all noStar=true)(h:K.lD ((e1::es).map (r c true)) ρ k=some z)
  (f:∀ xs vs h' tk,k xs=some z→Kp s.heap h'→RbL w N true h' vs xs→wpAny (model prog w.w) A (call (.type "range") vs) (fun v s₁=>wpAny (model prog w.w) A (pyIter v) Q E s₁) E (sx s h' tk)):
  wpAny (model prog w.w) A (eval (.Call (.Name s_range p1) (e1::es) [] p2) env) (fun v s₁=>wpAny (model prog w.w) A (pyIter v) Q E s₁) E s:=by
 refine wpAny_Call_NameR (ld_global C.e0 hg C.gi.g C.gi.b (.inr C.gi.rg) ?_)
 rw[starEach_eq hns]
 exact PySem.callWith_type (by simp) (Calls.evalArgs_plain (list_ok H _ s _ _ C h fun xs vs h' tk _ hx kp rr=>f xs vs h' tk hx kp rr))
theorem rng_out{h':Heap}{tk:Nat}{a b c:Int}{n:Nat}{ds:List V}(hh:A.handled=none)(kp:Kp s.heap h')(hl:ds.length=n)(hn:n≤1000000)(g:ds.length≤1000000→Gives w A bb (.Name x p) [x] N s (ds.map fun x=>[x]) Q)
  (hs:Builtin.Range.small a b c=true) (hz:Builtin.Range.rangeSize a b c=(n:Int)) (hd:∀ i,i < n→ds[i]?=some (.int (a + i * c))) {t u v:Tok} {r:Addr} {h₂:Heap} (hr:IsRange h₂ r a b c t u v) (k2:Kp h' h₂):wpAny (model prog w.w) A (pyIter (.ref r)) Q E (sx s h₂ tk):=
 Gives.of_begins (s:=s) (kp.trans k2) (g (hl▸hn)) (begins_range hh hr hs hz hl hd)
theorem rng1(hh:A.handled=none){p1 p2:Pos}{a:PySem.Expr}(H:∀ e,DOk w A c true e (r c true e))(C:Cond w c env ρ N s.heap)(hg:c.isGlob s_range=true)(hn:[a].all noStar=true)(h:K.lD ([a].map (r c true)) ρ (fun vs=>K.rowsK 1 vs kk)=some z)
  (out:∀ rows,kk rows=some z→rows.length≤1000000→Gives w A bb (.Name x p) [x] N s rows Q):wpAny (model prog w.w) A (eval (.Call (.Name s_range p1) [a] [] p2) env) (fun v s₁=>wpAny (model prog w.w) A (pyIter v) Q E s₁) E s:=
 rng_go H C hg hn h fun xs vs h' tk hx kp rr=>by
  obtain⟨y,rfl,_⟩:=K.one_some (k:=fun x=>K.vInt x fun b=>K.sm b (K.diK b (Int.ofNat Nat.zero) fun n=>K.upK n (Int.ofNat Nat.zero) fun l=>K.rows1 l kk)) hx
  obtain⟨i,rfl,hb,hk⟩:=K.rowsB hx
  obtain⟨v,rfl,rv⟩:=one_of rr
  obtain⟨t,rfl⟩:=rb_int_inv rv
  exact call_range_1 (rng_out hh kp (upRange_len _ _) (by omega) (fun l=>out _ hk (by rw[List.length_map];exact l)) (small_one (by omega) (by omega) (by omega) (by omega)) (by rw[rangeSize_nat,Int.sub_zero]) (fun j hj=>by rw[upRange_get _ _ _ hj,Int.mul_one]) (IsRange.new _ 0 i 1 _ _ _) (kp_push _ _))
theorem rng2(hh:A.handled=none){p1 p2:Pos}{a b:PySem.Expr}(H:∀ e,DOk w A c true e (r c true e))(C:Cond w c env ρ N s.heap)(hg:c.isGlob s_range=true)(hn:[a,b].all noStar=true)(h:K.lD ([a,b].map (r c true)) ρ (fun vs=>K.rowsK 2 vs kk)=some z)
  (out:∀ rows,kk rows=some z→rows.length≤1000000→Gives w A bb (.Name x p) [x] N s rows Q):wpAny (model prog w.w) A (eval (.Call (.Name s_range p1) [a,b] [] p2) env) (fun v s₁=>wpAny (model prog w.w) A (pyIter v) Q E s₁) E s:=
 rng_go H C hg hn h fun xs vs h' tk hx kp rr=>by
  obtain⟨y,y2,rfl,_⟩:=K.two_some (k:=fun x y=>K.vInt x fun a=>K.vInt y fun b=>K.sm a (K.sm b (K.diK b a fun n=>K.upK n a fun l=>K.rows1 l kk))) hx
  obtain⟨i,j,rfl,rfl,hb1,hb2,hk⟩:=K.rowsAB hx
  obtain⟨v,v',rfl,rv,rv'⟩:=two_of rr
  obtain⟨t,rfl⟩:=rb_int_inv rv
  obtain⟨t',rfl⟩:=rb_int_inv rv'
  exact call_range_2 (rng_out hh kp (upRange_len _ _) (by omega) (fun l=>out _ hk (by rw[List.length_map];exact l)) (small_one (by omega) (by omega) (by omega) (by omega)) (by rw[rangeSize_nat]) (fun m hm=>by rw[upRange_get _ _ _ hm,Int.mul_one]) (IsRange.new _ i j 1 _ _ _) (kp_push _ _))
theorem rng3(hh:A.handled=none){p1 p2:Pos}{a b d:PySem.Expr}(H:∀ e,DOk w A c true e (r c true e))(C:Cond w c env ρ N s.heap)(hg:c.isGlob s_range=true)(hn:[a,b,d].all noStar=true)(h:K.lD ([a,b,d].map (r c true)) ρ (fun vs=>K.rowsK 3 vs kk)=some z)
  (out:∀ rows,kk rows=some z→rows.length≤1000000→Gives w A bb (.Name x p) [x] N s rows Q):wpAny (model prog w.w) A (eval (.Call (.Name s_range p1) [a,b,d] [] p2) env) (fun v s₁=>wpAny (model prog w.w) A (pyIter v) Q E s₁) E s:=
 rng_go H C hg hn h fun xs vs h' tk hx kp rr=>by
  obtain⟨y,y2,y3,rfl,_⟩:=K.three_some (k:=fun x y c=>K.vInt x fun a=>K.vInt y fun b=>K.vInt c fun c=>K.m1 c (K.sm a (K.sm b (K.diK a b fun n=>K.downK n a fun l=>K.rows1 l kk)))) hx
  obtain⟨i,j,rfl,rfl,rfl,hb1,hb2,hk⟩:=K.rowsABC hx
  cases rr with | @cons v _ _ _ rv rr=>?_
  obtain⟨v',v'',rfl,rv',rv''⟩:=two_of rr
  obtain⟨t,rfl⟩:=rb_int_inv rv
  obtain⟨t',rfl⟩:=rb_int_inv rv'
  obtain⟨t'',rfl⟩:=rb_int_inv rv''
  exact call_range_3 (by decide) (rng_out hh kp (downRange_len _ _) (by omega) (fun l=>out _ hk (by rw[List.length_map];exact l)) (small_down (by omega) (by omega) (by omega) (by omega)) (down_size i j) (fun m hm=>by rw[downRange_get _ _ _ hm];congr 2;omega) (IsRange.new _ i j (-1) _ _ _) (kp_push _ _)) (.inl (PyProof.noPylong_small (by omega)))
end
theorem s_items_eq:s_items=Str.ofString "items":=by decide +kernel
theorem key_at{es:List DictEntry}{ks:List V}(ko:KeysOk w h es ks){i:Nat}{e:DictEntry}(he:es[i]?=some e):∃ kd,ks[i]?=some kd∧Rb w N false h e.key kd:=by
 cases ko with
 | kI x _=>
  obtain⟨j,hj,_,t,et⟩:=all2_at x he
  exact⟨.int j,by rw[List.getElem?_map,hj];rfl,et.symm▸rb_int _ _ _ _⟩
 | kS x _=>
  obtain⟨j,hj,_,t,et⟩:=all2_at x he
  exact⟨.str j,by rw[List.getElem?_map,hj];rfl,et.symm▸rb_str _ _ _ _⟩
 | kT x _=>
  obtain⟨kd,hj,_,b',et,tk⟩:=all2_at x he
  exact⟨kd,hj,et.symm▸tkey_rb tk⟩
theorem src_items(hh:A.handled=none){es:List PySem.Expr}{ts:List Str}{kk:Nat}{p:Pos}(hn:namesOf es=some ts)(h2:ts.length=2){x:Str}{i:Nat}{p1 ap p2:Pos}{b:Bool}(C:Cond w c env ρ N s.heap)(hi:c.slot x=some i)(hp:(ap.endLine==p2.line)=true)
  {k:List (List V)→R} (h:K.cN b i ρ (fun y=>K.rowsK 6 [y] k)=some z) {Q:Value→Shared→Prop} (out:∀ rows,k rows=some z→rows.length≤1000000→Gives w A b (.Tuple es kk p) ts N s rows Q):
  wpAny (model prog w.w) A (eval (.Call (.Attribute (.Name x p1) s_items ap) [] [] p2) env) (fun v s₁=>wpAny (model prog w.w) A (pyIter v) Q E s₁) E s:=by
 obtain⟨d,v,hd,lv,rv⟩:=name_look C hi h
 obtain⟨ps,rfl,hl,hk⟩:=K.rowsD hd
 obtain⟨a,des,n0,ks,ds,rfl,rfl,e,ko,hlen,rl,qN⟩:=rb_dict_inv rv
 have hsys:=no_mods C.gi.noSys rv
 have hlz:(ks.zip ds).length=des.length:=by rw[List.length_zip,← hlen,dict_len ko,Nat.min_self]
 rw[hlz]at hl
 rw[s_items_eq]
 refine wpAny_Call_method (T:="dict") (id:="dict.items") rfl rfl hp F.plainAttrs_dict F.slot_dict_items F.type_dict_items (ld_look C.e0 hi lv ⟨⟨_,e,rfl⟩,fun a' q=>?_,?_⟩)
 ·cases q;exact⟨_,e,rfl⟩
 show wpAny _ _ (callWith p2 (.builtin "dict.items") [.ref a] [] []) _ E s
 refine Calls.callWith_builtin rfl (PySem.evalArgs_none (items_view e hsys ?_))
 refine items_iter (d:=a) (ep:=n0) (es:=des) ⟨_,Heap.get?_push_size _ rfl,rfl,rfl⟩ (kp_push _ _ _ _ e) hl ?_
 have hlt:=Heap.lt_size e
 have hne:a≠(s.heap.push { cls:=.type "dict_items",data:=.fields #[.ref a] }).objs.size:=by rw[Heap.size_push];exact Nat.ne_of_lt (Nat.lt_succ_of_lt hlt)
 have W:=items_walk (w:=w) (ep:=n0) (es:=des) hh hne
 have hrl:((ks.zip ds).map fun p=>[p.1,p.2]).length=des.length:=by rw[List.length_map,hlz]
 rw[← hrl]at W
 have st0:=Heap.get?_push_size (s.heap.push { cls:=.type "dict_items",data:=.fields #[.ref a] }) (o:={ cls:=.type "dict_itemiterator",data:=.fields #[.none,.bool false,.ref a,.int 0 0,.int des.length 0,.int n0 0,.none,.none] }) rfl
 have R:=itr_tup (bb:=b) (N:=N) (h:=s.heap.push { cls:=.type "dict_items",data:=.fields #[.ref a] }) (h':=(s.heap.push { cls:=.type "dict_items",data:=.fields #[.ref a] }).push { cls:=.type "dict_itemiterator",data:=.fields #[.none,.bool false,.ref a,.int 0 0,.int des.length 0,.int n0 0,.none,.none] })
  (kk:=kk) (p:=p) hn W (fun i vals ⟨e,he,hv⟩ hi=>?_) ⟨⟨.none,.none,by rw[hrl];exact st0⟩,kp_push _ _ _ _ (kp_push _ _ _ _ e)⟩ (kp_push _ _) (fun b hb=>?_) (fun b hb=>?_) (.head _) ?_ fun qb b' hb=>?_
 ·obtain⟨P,Md,T⟩:=R
  exact out _ hk (by rw[hrl];exact hl) _ _ _ s.toks _ _ _ _ _ (kp_push _ _) T
 ·refine bc fun gG=>?_
  obtain⟨kd,hkd,rk⟩:=key_at (N:=N) ko he
  have hval:(des.map (·.val))[i]?=some e.val:=by rw[List.getElem?_map,he];rfl
  obtain⟨d,hd,rd⟩:=all2_at rl hval
  refine gG ?_
  refine⟨[e.key,e.val],[kd,d],hv,?_,h2,.cons (rk.keeps (kp_push _ _)) (.cons (rd.keeps (kp_push _ _)) .nil)⟩
  rw[List.getElem?_map,(List.getElem?_zip_eq_some (z:=(kd,d))).mpr ⟨hkd,hd⟩];rfl
 ·rw[List.mem_singleton]at hb;subst hb;exact none_size _
 ·rcases List.mem_cons.mp hb with rfl | hb
  ·exact⟨_,Heap.get?_push_size _ rfl⟩
  ·rw[List.mem_singleton]at hb;subst hb;exact⟨_,kp_push _ _ _ _ (kp_push _ _ _ _ e)⟩
 ·rintro i h ⟨⟨ok,ov,ho⟩,_⟩ b hb
  rw[List.mem_singleton]at hb;subst hb
  exact⟨_,ho,fun q=>absurd (Value.type.inj q.1) (by decide)⟩
 ·rcases List.mem_cons.mp hb with rfl | hb
  ·exact .inl (.head _)
  ·rw[List.mem_singleton]at hb;subst hb;exact .inr (.inl (qN qb))
theorem src_call(hh:A.handled=none){f:Str}{p1 p2:Pos}{b:Bool}{a:PySem.Expr}{T:String}(H:DOk w A c b a (r c b a))(C:Cond w c env ρ N s.heap)(hg:c.isGlob f=true)(hf:w.fn f=none∧w.bb f=some (.type T))(hn:noStar a=true){k:V→R}(h:r c b a ρ k=some z){Q:Value→Shared→Prop}
  (q:∀ y v h' tk,k y=some z→Kp s.heap h'→Rb w N b h' v y→wpAny (model prog w.w) A (call (.type T) [v]) Q E (sx s h' tk)):wpAny (model prog w.w) A (eval (.Call (.Name f p1) [a] [] p2) env) Q E s:=by
 refine wpAny_Call_NameR (ld_global C.e0 hg C.gi.g C.gi.b (.inr hf) ?_)
 rw[starEach_eq (by simp [hn])]
 exact PySem.callWith_type (by simp) (Calls.evalArgs_plain (Calls.spliced_cons (H.go C h fun y v h' tk hy kp rv=>Calls.spliced_nil (q y v h' tk hy kp rv))))
theorem src_rev(hh:A.handled=none){x:Str}{p p1 p2:Pos}{f:Str}{b:Bool}{a:PySem.Expr}(H:DOk w A c b a (r c b a))(C:Cond w c env ρ N s.heap)(hg:c.isGlob f=true)(hf:f=s_reversed)(hn:noStar a=true){k:List (List V)→R}
  (h:r c b a ρ (fun y=>K.rowsK 5 [y] k)=some z) {Q:Value→Shared→Prop} (out:∀ rows,k rows=some z→rows.length≤1000000→Gives w A b (.Name x p) [x] N s rows Q):
  wpAny (model prog w.w) A (eval (.Call (.Name f p1) [a] [] p2) env) (fun v s₁=>wpAny (model prog w.w) A (pyIter v) Q E s₁) E s:=by
 subst hf
 refine src_call hh H C hg C.gi.rv hn h fun y v h' tk hy kp rv=>?_
 obtain⟨ds,rfl,hl,hk⟩:=K.rowsRev hy
 obtain⟨l,vs,n,rfl,e,q,qN⟩:=rb_lst_inv rv
 refine call_reversed_list (s:=(sx s h' tk)) (isList_of e) ?_
 obtain⟨P,Md,St,T⟩:=itr_rev (w:=w) (A:=A) (x:=x) (p:=p) hh e q qN
 exact T.self 0 (sx s _ tk) Q T.st0 (out _ hk (by rw[List.length_map,List.length_reverse];exact hl) _ _ _ tk _ _ _ _ _ kp T)
theorem src_enum(hh:A.handled=none){es:List PySem.Expr}{ts:List Str}{kk:Nat}{p p1 p2:Pos}{f:Str}{b:Bool}{a:PySem.Expr}(hnm:namesOf es=some ts)(h2:ts.length=2)(H:DOk w A c b a (r c b a))(C:Cond w c env ρ N s.heap)(hg:c.isGlob f=true)(hf:f=s_enumerate)(hn:noStar a=true){k:List (List V)→R}
  (h:r c b a ρ (fun y=>K.rowsK 4 [y] k)=some z) {Q:Value→Shared→Prop} (out:∀ rows,k rows=some z→rows.length≤1000000→Gives w A b (.Tuple es kk p) ts N s rows Q):
  wpAny (model prog w.w) A (eval (.Call (.Name f p1) [a] [] p2) env) (fun v s₁=>wpAny (model prog w.w) A (pyIter v) Q E s₁) E s:=by
 subst hf
 refine src_call hh H C hg C.gi.en hn h fun y v h' tk hy kp rv=>?_
 obtain⟨ds,rfl,hl,hk⟩:=K.rowsEn hy
 obtain⟨l,vs,n,rfl,e,q,qN⟩:=rb_lst_inv rv
 refine call_enumerate_list (s:=(sx s h' tk)) (isList_of e) fun h₂ he hit hz kp2=>?_
 obtain⟨P,Md,St,T⟩:=itr_enum (w:=w) (A:=A) (kk:=kk) (p:=p) hnm h2 hh e q he hit (fun b o x=>kp2 b o x) qN
 exact T.self 0 (sx s h₂ tk) Q T.st0 (out _ hk ((enum_len ds 0).symm▸hl) _ _ _ tk _ _ _ _ _ kp T)
inductive ItI(r:Rec)(c:Cx)(bb:Bool):PySem.Expr→Nat→List D→Prop
 | plain(e:PySem.Expr):ItI r c bb e 0 [r c bb e]
 | r1{p1 p2:Pos}{a:PySem.Expr}(hg:c.isGlob s_range=true)(hn:[a].all noStar=true):ItI r c bb (.Call (.Name s_range p1) [a] [] p2) 1 ([a].map (r c true))
 | r2{p1 p2:Pos}{a b:PySem.Expr}(hg:c.isGlob s_range=true)(hn:[a,b].all noStar=true):ItI r c bb (.Call (.Name s_range p1) [a,b] [] p2) 2 ([a,b].map (r c true))
 | r3{p1 p2:Pos}{a b d:PySem.Expr}(hg:c.isGlob s_range=true)(hn:[a,b,d].all noStar=true):ItI r c bb (.Call (.Name s_range p1) [a,b,d] [] p2) 3 ([a,b,d].map (r c true))
 | en{p1 p2:Pos}{a:PySem.Expr}(hg:c.isGlob s_enumerate=true)(hn:noStar a=true):ItI r c bb (.Call (.Name s_enumerate p1) [a] [] p2) 4 [r c bb a]
 | rv{p1 p2:Pos}{a:PySem.Expr}(hg:c.isGlob s_reversed=true)(hn:noStar a=true):ItI r c bb (.Call (.Name s_reversed p1) [a] [] p2) 5 [r c bb a]
 | items{x:Str}{p1 ap p2:Pos}{i:Nat}(hi:c.slot x=some i)(hp:(ap.endLine==p2.line)=true):ItI r c bb (.Call (.Attribute (.Name x p1) s_items ap) [] [] p2) 6 [K.cN bb i]
section
variable{bb:Bool}{k:Nat}{xs:List D}
theorem itP{e:PySem.Expr}(h:some (0,[r c bb e])=some (k,xs)):ItI r c bb e k xs:=by cases h;exact .plain e
theorem if_some{p:Bool}{α:Type}{o:Option α}{x:α}(h:(if p then o else none)=some x):p=true∧o=some x:=by
 cases p with
 | true=>exact⟨rfl,h⟩
 | false=>cases h
theorem rngI{es:List PySem.Expr}{p1 p2:Pos}(hg:c.isGlob s_range=true)(h:K.rngD r c es=some (k,xs)):ItI r c bb (.Call (.Name s_range p1) es [] p2) k xs:=by
 have al:∀ {e:PySem.Expr} {b:Bool} {es:List PySem.Expr},b=es.all noStar→(noStar e&&b)=true→(e::es).all noStar=true:=fun q h=>by rw[List.all_cons,← q];exact h
 cases es with
 | nil=>cases h
 | cons a es=>
 cases es with
 | nil=>have h:=if_some (p:=noStar a) h;cases h.2;exact .r1 hg (al (b:=true) rfl (by rw[h.1];rfl))
 | cons b es=>
 cases es with
 | nil=>have h:=if_some (p:=noStar a&&noStar b) h;cases h.2;exact .r2 hg (by rw[Bool.and_eq_true]at h;simp [h.1.1,h.1.2])
 | cons d es=>
 cases es with
 | nil=>have h:=if_some (p:=noStar a&&noStar b&&noStar d) h;cases h.2;exact .r3 hg (by rw[Bool.and_eq_true,Bool.and_eq_true]at h;simp [h.1.1.1,h.1.1.2,h.1.2])
 | cons _ _=>cases h
theorem oneI{es:List PySem.Expr}{m:Nat}(h:K.oneD r c bb m es=some (k,xs)):∃ a,es=[a]∧noStar a=true∧k=m∧xs=[r c bb a]:=by
 cases es with
 | nil=>cases h
 | cons a es=>
 cases es with
 | nil=>have h:=if_some (p:=noStar a) h;cases h.2;exact⟨a,rfl,h.1,rfl,rfl⟩
 | cons _ _=>cases h
theorem callI{f:Str}{es:List PySem.Expr}{kws:List Keyword}{p1 p:Pos}(h:K.itD r c bb (.Call (.Name f p1) es kws p)=some (k,xs)):ItI r c bb (.Call (.Name f p1) es kws p) k xs:=by
 by_cases q:(kws.isEmpty&&c.isGlob f&&(idxS f 0 c.fns).isNone&&(f==s_range || f==s_enumerate || f==s_reversed))=true
 ·have h1:=(if_pos q).symm.trans h
  rw[Bool.and_eq_true,Bool.and_eq_true,Bool.and_eq_true,Bool.or_eq_true,Bool.or_eq_true]at q
  obtain rfl:=List.isEmpty_iff.mp q.1.1.1
  have hg:=q.1.1.2
  by_cases q1:(f==s_range)=true
  ·have h2:=(if_pos q1).symm.trans h1
   obtain rfl:=eq_of_beq q1
   exact rngI hg h2
  ·have h2:=(if_neg q1).symm.trans h1
   by_cases q2:(f==s_enumerate)=true
   ·obtain⟨a,rfl,hn,rfl,rfl⟩:=oneI ((if_pos q2).symm.trans h2)
    obtain rfl:=eq_of_beq q2
    exact .en hg hn
   ·obtain⟨a,rfl,hn,rfl,rfl⟩:=oneI ((if_neg q2).symm.trans h2)
    rcases q.2 with (q | q) | q
    ·exact absurd q q1
    ·exact absurd q q2
    ·obtain rfl:=eq_of_beq q
     exact .rv hg hn
 ·exact itP ((if_neg q).symm.trans h)
theorem attrI{x m:Str}{es:List PySem.Expr}{kws:List Keyword}{p1 ap p:Pos}(h:K.itD r c bb (.Call (.Attribute (.Name x p1) m ap) es kws p)=some (k,xs)):ItI r c bb (.Call (.Attribute (.Name x p1) m ap) es kws p) k xs:=by
 have h:=if_some (p:=kws.isEmpty&&es.isEmpty&&m==s_items&&ap.endLine==p.line) h
 have q:=h.1
 have g:=h.2
 rw[Bool.and_eq_true,Bool.and_eq_true,Bool.and_eq_true]at q
 obtain rfl:=List.isEmpty_iff.mp q.1.1.1
 obtain rfl:=List.isEmpty_iff.mp q.1.1.2
 obtain rfl:=eq_of_beq q.1.2
 cases hi:c.slot x with
 | none=>rw[hi]at g;cases g
 | some i=>rw[hi]at g;cases g;exact .items hi q.2
theorem itI{e:PySem.Expr}:K.itD r c bb e=some (k,xs)→ItI r c bb e k xs:=by
 apply @PySem.Expr.casesOn (fun e=>K.itD r c bb e=some (k,xs)→ItI r c bb e k xs) e
 case Call=>
  intro f es kws p
  apply @PySem.Expr.casesOn (fun f=>K.itD r c bb (.Call f es kws p)=some (k,xs)→ItI r c bb (.Call f es kws p) k xs) f
  case Name=>intro f p1 h;exact callI h
  case Attribute=>
   intro o m ap
   apply @PySem.Expr.casesOn (fun o=>K.itD r c bb (.Call (.Attribute o m ap) es kws p)=some (k,xs)→ItI r c bb (.Call (.Attribute o m ap) es kws p) k xs) o
   case Name=>intro x p1 h;exact attrI h
   all_goals (intros;rename_i h;exact noP h)
  all_goals (intros;rename_i h;exact itP h)
 case Set=>intros;rename_i h;exact noP h
 all_goals (intros;rename_i h;exact itP h)
inductive TgI:PySem.Expr→List Str→Nat→Prop
 | name{x:Str}{p:Pos}{k:Nat}(h:k≠4)(h':k≠6):TgI (.Name x p) [x] k
 | tup{es:List PySem.Expr}{m:Nat}{p:Pos}{ts:List Str}{k:Nat}(hn:namesOf es=some ts)(h:k=4∨k=6)(h2:ts.length=2):TgI (.Tuple es m p) ts k
theorem tgI{loop:Bool}{t:PySem.Expr}{ts:List Str}:tgNames t=some ts→okT loop k ts.length t=true→TgI t ts k:=by
 apply @PySem.Expr.casesOn (fun t=>tgNames t=some ts→okT loop k ts.length t=true→TgI t ts k) t
 case Name=>
  intro x p h1 h2
  cases h1
  have h2:(Nat.ble k 3 || (loop&&k==5))=true:=h2
  rw[Bool.or_eq_true,Bool.and_eq_true]at h2
  rcases h2 with h2 | h2
  ·have:=Nat.le_of_ble_eq_true h2
   exact .name (by omega) (by omega)
  ·have:=eq_of_beq h2.2
   exact .name (by omega) (by omega)
 case Tuple=>
  intro es m p h1 h2
  have h2:((k==4 || k==6)&&ts.length==2)=true:=h2
  rw[Bool.and_eq_true,Bool.or_eq_true]at h2
  exact .tup h1 (h2.1.imp eq_of_beq eq_of_beq) (eq_of_beq h2.2)
 all_goals (intros;rename_i h;exact noB h)
end
theorem src_ok(hh:A.handled=none){loop bb:Bool}{iter target:PySem.Expr}{ts:List Str}{k:Nat}{xs:List D}(H:∀ b e,DOk w A c b e (r c b e))(C:Cond w c env ρ N s.heap)(ht:tgNames target=some ts)(hit:K.itD r c bb iter=some (k,xs))(hk:okT loop k ts.length target=true)
  {kk:List (List V)→R} (h:K.lD xs ρ (fun vs=>K.rowsK k vs kk)=some z) {Q:Value→Shared→Prop} (out:∀ rows,kk rows=some z→rows.length≤1000000→Gives w A bb target ts N s rows Q):
  wpAny (model prog w.w) A (eval iter env) (fun v s₁=>wpAny (model prog w.w) A (pyIter v) Q E s₁) E s:=by
 have T:=tgI ht hk
 have I:=itI hit
 clear ht hit hk
 cases T with
 | name h1 h2=>
  cases I with
  | plain _=>exact src0 hh (H bb _) C h out
  | r1 hg hn=>exact rng1 hh (H true) C hg hn h out
  | r2 hg hn=>exact rng2 hh (H true) C hg hn h out
  | r3 hg hn=>exact rng3 hh (H true) C hg hn h out
  | en hg hn=>exact absurd rfl h1
  | rv hg hn=>exact src_rev hh (H bb _) C hg rfl hn h out
  | items hi hp=>exact absurd rfl h2
 | tup hn hk h2=>
  cases I with
  | en hg hs=>exact src_enum hh hn h2 (H bb _) C hg rfl hs h out
  | items hi hp=>exact src_items hh hn h2 C hi hp h out
  | _=>exact absurd hk (by decide)
end
section
set_option tactic.hygienic true
theorem cellsFrom_app:∀ (names:List (Str × NameKind)) (n:Nat) (a b:List (Str × Addr)),cellsFrom n names (a++b)=cellsFrom n names a++b
 | [],_,_,_=>rfl
 | (x,k)::r,n,a,b=>by
  unfold cellsFrom
  split
  ·exact cellsFrom_app r (n + 1) ((x,n)::a) b
  ·exact cellsFrom_app r n a b
theorem lookup_app(l m:List (Str × Addr))(y:Str):(l++m).lookup y=match l.lookup y with | some a=>some a | none=>m.lookup y:=by
 induction l with
 | nil=>rfl
 | cons p l ih=>
  obtain⟨x,a⟩:=p
  rw[List.cons_append,List.lookup_cons,List.lookup_cons,ih]
  cases y==x <;> rfl
theorem cellsFrom_some:∀ (names:List (Str × NameKind)) (n:Nat) (acc:List (Str × Addr)) (y:Str),((y,NameKind.cell)∈names∨∃ a,acc.lookup y=some a)→∃ a,(cellsFrom n names acc).lookup y=some a
 | [],n,acc,y,h=>by
  rcases h with h | h
  ·cases h
  ·exact h
 | (x,k)::r,n,acc,y,h=>by
  unfold cellsFrom
  split
  ·rename_i hk
   refine cellsFrom_some r _ _ y ?_
   by_cases q:y=x
   ·subst q;exact .inr ⟨n,by simp⟩
   ·rcases h with h | ⟨a,e⟩
    ·rcases List.mem_cons.mp h with e | m
     ·cases e;exact absurd rfl q
     ·exact .inl m
    ·exact .inr ⟨a,by rw[List.lookup_cons,show(y==x)=false by simpa using q];exact e⟩
  ·rename_i hk
   refine cellsFrom_some r _ _ y ?_
   rcases h with h | h
   ·rcases List.mem_cons.mp h with e | m
    ·cases e;exact absurd rfl hk
    ·exact .inl m
   ·exact .inr h
theorem cellsFrom_mem:∀ (names:List (Str × NameKind)) (n:Nat) (acc:List (Str × Addr)) (y:Str) (a:Addr),(y,a)∈cellsFrom n names acc→(y,NameKind.cell)∈names∨(y,a)∈acc
 | [],n,acc,y,a,h=>.inr h
 | (x,k)::r,n,acc,y,a,h=>by
  unfold cellsFrom at h
  split at h
  ·rename_i hk
   rcases cellsFrom_mem r _ _ y a h with m | m
   ·exact .inl (.tail _ m)
   ·rcases List.mem_cons.mp m with e | m
    ·cases e
     have:k=.cell:=by simpa using hk
     subst this;exact .inl (.head _)
    ·exact .inr m
  ·rcases cellsFrom_mem r _ _ y a h with m | m
   ·exact .inl (.tail _ m)
   ·exact .inr m
structure CompFr(env:Env)(sc:Scope)(cl:List (Str × Addr))(C:Addr)(h0 h1 h:Heap):Prop where
 ns:∃ m,h.Ns C m
 newC:h1.get? C=none
 free:∀ x,(x,NameKind.free)∈sc.names→cl.lookup x=env.cells.lookup x
 cell:∀ x,sc.names.lookup x=some .cell→∃ a,cl.lookup x=some a
 own:∀ x a,sc.names.lookup x=some .cell→cl.lookup x=some a→h1.get? a=none∧C < a
 out:∀ x a,cl.lookup x=some a→h1.get? a=none∨∃ o,h0.get? a=some o
 cel:∀ x a,cl.lookup x=some a→∃ u,h.IsCell a u
 d1:∀ x a,cl.lookup x=some a→a≠C
 d2:∀ x y a,cl.lookup x=some a→cl.lookup y=some a→x=y
theorem newEnv_comp{sc:Scope}{cl:List (Str × Addr)}{Q:Env→Shared→Prop} (q:Q (newEnv sc s.heap.objs.size env.globals (cellsFrom (s.heap.objs.size + 1) sc.names cl) env.qual none .none (some env) builtinsNs)
  { s with heap:=pushCells (s.heap.push { cls:=.type "dict",data:=.dict #[] }) sc.names }):wpAny (model prog w.w) A (newFunctionEnv sc env.globals cl [] env.qual none .none (some env)) Q E s:=by
 simp only[newFunctionEnv,Option.isSome_some,if_true]
 refine wpAny_bind (wpAny_alloc ?_)
 refine wpAny_bind (wpAny_layCells _ (fun name kind cells=>by cases hkc:kind==NameKind.cell <;> simp [hkc]) _ _ _ _ ?_)
 rw[show({ s with heap:=s.heap.push { cls:=.type "dict",data:=.dict #[] } }:Shared).heap.objs.size=s.heap.objs.size + 1 from Heap.size_push ..]
 exact wpAny_bind (wpAny_pure (wpAny_pure q))
theorem comp_frame{sc:Scope}{ts:List Str}{h0 h1 h2:Heap}(C0:Cond w c env ρ N h0)(ok:okScope c sc ts=true)(k02:Kp h0 h2)
  {cl:List (Str × Addr)} (hcl:∀ x,cl.lookup x=(if (x,NameKind.free)∈sc.names then env.cells.lookup x else none)) (z1:∀ a,h2.objs.size≤a→h1.get? a=none):
  CompFr env sc (cellsFrom (h2.objs.size + 1) sc.names cl) h2.objs.size h0 h1 (pushCells (h2.push { cls:=.type "dict",data:=.dict #[] }) sc.names):=by
 obtain⟨o1,o2,o3,o4,o5⟩:=okScope_parts ok
 have ck:=cellsFrom_ok sc.names (h2.push { cls:=.type "dict",data:=.dict #[] }) (h2.objs.size + 1) [] ⟨fun _ _ hm=>(nomatch hm),List.Pairwise.nil⟩ (by rw[Heap.size_push];exact Nat.le_refl _)
 rw[Heap.size_push]at ck
 have app:cellsFrom (h2.objs.size + 1) sc.names cl=cellsFrom (h2.objs.size + 1) sc.names []++cl:=cellsFrom_app sc.names _ [] cl
 have cases:∀ x a,(cellsFrom (h2.objs.size + 1) sc.names cl).lookup x=some a→(x,a)∈cellsFrom (h2.objs.size + 1) sc.names []∨env.cells.lookup x=some a:=by
  intro x a e
  rw[app,lookup_app]at e
  cases q:(cellsFrom (h2.objs.size + 1) sc.names []).lookup x with
  | some b=>rw[q]at e;cases e;exact .inl (mem_of_lookup q)
  | none=>
   rw[q]at e
   simp only[hcl]at e
   split at e
   ·exact .inr e
   ·cases e
 have up:Kp h2 (pushCells (h2.push { cls:=.type "dict",data:=.dict #[] }) sc.names):=fun b o e=>pushCells_keeps _ _ b o (Heap.get?_push_of_some _ e)
 have outer:∀ x a,env.cells.lookup x=some a→a < h2.objs.size:=fun x a e=>by
  obtain⟨u,i⟩:=C0.cel x a e
  obtain⟨o,ho,_⟩:=i
  exact Heap.lt_size (k02 _ _ ho)
 refine⟨⟨_,(Heap.Ns.new h2 (.type "dict")).keeps (pushCells_keeps _ _)⟩,z1 _ (Nat.le_refl _),fun x m=>?_,fun x e=>?_,fun x a e ea=>?_,fun x a e=>?_,fun x a e=>?_,fun x a e=>?_,fun x y a e e'=>?_⟩
 ·rw[app,lookup_app]
  cases q:(cellsFrom (h2.objs.size + 1) sc.names []).lookup x with
  | some b=>
   exfalso
   rcases cellsFrom_mem _ _ _ _ _ (mem_of_lookup q) with m' | m'
   ·rcases (okName_parts (o2 _ m)).2.2 with ⟨q,_⟩ | ⟨q,_⟩ | ⟨_,_,q⟩ | ⟨q,_⟩
    ·cases q
    ·cases q
    ·rcases (okName_parts (o2 _ m')).2.2 with ⟨q',_⟩ | ⟨_,q',_⟩ | ⟨q',_⟩ | ⟨q',_⟩
     ·cases q'
     ·exact q q'
     ·cases q'
     ·cases q'
    ·cases q
   ·cases m'
  | none=>simp only[hcl,if_pos m]
 ·exact cellsFrom_some _ _ _ _ (.inl (mem_of_lookup e))
 ·obtain⟨b,eb⟩:=cellsFrom_some sc.names (h2.objs.size + 1) [] x (.inl (mem_of_lookup e))
  rw[app,lookup_app,eb]at ea
  cases ea
  exact⟨z1 _ (Nat.le_of_succ_le (ck.empty x a (mem_of_lookup eb)).2),(ck.empty x a (mem_of_lookup eb)).2⟩
 ·rcases cases x a e with m | e
  ·exact .inl (z1 _ (Nat.le_of_succ_le (ck.empty x a m).2))
  ·obtain⟨u,o,ho,_⟩:=C0.cel x a e
   exact .inr ⟨o,ho⟩
 ·rcases cases x a e with m | e
  ·exact⟨_,(ck.empty x a m).1⟩
  ·obtain⟨u,i⟩:=C0.cel x a e
   exact⟨u,(i.keeps k02).keeps up⟩
 ·rcases cases x a e with m | e
  ·exact Nat.ne_of_gt (Nat.lt_of_succ_le (ck.empty x a m).2)
  ·exact Nat.ne_of_lt (outer x a e)
 ·rcases cases x a e with m | e <;> rcases cases y a e' with m' | e'
  ·exact name_of_addr ck.apart m m'
  ·exact absurd (Nat.lt_of_lt_of_le (outer y a e') (Nat.le_of_succ_le (ck.empty x a m).2)) (Nat.lt_irrefl _)
  ·exact absurd (Nat.lt_of_lt_of_le (outer x a e) (Nat.le_of_succ_le (ck.empty y a m').2)) (Nat.lt_irrefl _)
  ·exact C0.dis x y a e e'
end
noncomputable def compW(sc:Scope)(cl:List (Str × Addr))(C D:Addr)(wr:List Addr)(a:Addr):Prop:=a=D∨a=C∨a∈wr∨∃ x,sc.names.lookup x=some .cell∧cl.lookup x=some a
theorem compW_mono{sc:Scope}{cl:List (Str × Addr)}{C D:Addr}{wr WR:List Addr}(sub:∀ a,a∈wr→a∈WR){a:Addr}(q:compW sc cl C D wr a):compW sc cl C D WR a:=q.elim .inl fun q=>.inr (q.elim .inl fun q=>.inr (q.elim (fun m=>.inl (sub a m)) .inr))
structure CompSt(w:Pk)(N:Addr→Prop)(sc:Scope)(cl:List (Str × Addr))(C D:Addr)(wr:List Addr)(h0 h:Heap)(zs:List V)(acc:Heap→List V→Prop):Prop where
 ns:∃ m,h.Ns C m
 cel:∀ x a,cl.lookup x=some a→∃ u,h.IsCell a u
 kp:Kp h0 h
 lw:∀ a,compW sc cl C D wr a→∃ o,h.get? a=some o
 nt:NoT (compW sc cl C D wr) h
 acc:acc h zs
structure Gather(w:Pk)(N1:Addr→Prop)(D:Addr)(acc:Heap→List V→Prop):Prop where
 but:∀ (W:Addr→Prop) h h' zs,(∀ a,W a→N1 a∧a≠D)→KpB W h h'→NoT W h→acc h zs→acc h' zs
 lv:∀ h zs,acc h zs→∃ o,h.get? D=some o∧¬ (o.cls=.type "tuple"∧∃ vs n,o.data=.seq vs n)
theorem kindOf_ts{sc:Scope}{cl:List (Str × Addr)}{C:Addr}{x:Str}(hx:sc.names.lookup x=some .local∨sc.names.lookup x=some .cell):(compEnvC sc cl C env).kindOf x=some .local∨(compEnvC sc cl C env).kindOf x=some .cell:=by
 have kd:(compEnvC sc cl C env).kindOf x=_:=lookup_rel x sc.names
 rcases hx with hx | hx
 ·exact .inl (by rw[kd,hx];rfl)
 ·exact .inr (by rw[kd,hx];rfl)
theorem kindOf_cell{sc:Scope}{cl:List (Str × Addr)}{C:Addr}{x:Str}(hx:sc.names.lookup x=some .local∨sc.names.lookup x=some .cell)(hk:(compEnvC sc cl C env).kindOf x=some .cell):sc.names.lookup x=some .cell:=by
 have kd:(compEnvC sc cl C env).kindOf x=_:=lookup_rel x sc.names
 rcases hx with hx | hx
 ·rw[kd,hx]at hk;cases hk
 ·exact hx
structure CompCx(w:Pk)(A:Around)(Nr:Addr→Prop)(sc:Scope)(ts':List Str)(cl:List (Str × Addr))(C D I:Addr)(target:PySem.Expr)(rows:List (List V))(WR:List Addr)(hB h0 h1:Heap)(fp wr:List Addr)(P Md:Nat→Value→Heap→Prop)(St:Nat→Heap→Prop):Prop where
 kind:sc.kind=.function
 kx:∀ x∈ts',sc.names.lookup x=some .local∨sc.names.lookup x=some .cell
 nd:ts'.Nodup
 T:Itr w A true target ts' Nr h0 h1 rows I fp wr P Md St
 cell:∀ x,sc.names.lookup x=some .cell→∃ a,cl.lookup x=some a
 clD:∀ x a,cl.lookup x=some a→a≠D
 d1:∀ x a,cl.lookup x=some a→a≠C
 d2:∀ x y a,cl.lookup x=some a→cl.lookup y=some a→x=y
 hDC:D≠C
 fpC:C∉fp
 fpD:D∉fp
 fpc:∀ x a,sc.names.lookup x=some .cell→cl.lookup x=some a→a∉fp
 wrc:∀ x a,cl.lookup x=some a→a∉wr
 sub:∀ a,a∈wr→a∈WR
 fresh:∀ a,compW sc cl C D WR a→hB.get? a=none
theorem comp_turn{sc:Scope}{ts':List Str}{cl:List (Str × Addr)}{C D I:Addr}{target:PySem.Expr}{rows:List (List V)}{WR:List Addr}{hB h0 h1:Heap}{Nr:Addr→Prop}{fp wr:List Addr}{P Md:Nat→Value→Heap→Prop}{St:Nat→Heap→Prop}{zs:List V}{acc:Heap→List V→Prop}
  (hh:A.handled=none) (X:CompCx w A Nr sc ts' cl C D I target rows WR hB h0 h1 fp wr P Md St)
  (Ga:Gather w (fun a=>N a∨compW sc cl C D WR a) D acc) {i:Nat} (hi:i < rows.length) (st:St i s.heap) (S:CompSt w N sc cl C D WR hB s.heap zs acc) {Q:Option Value→Shared→Prop} {Q':Unit→Shared→Prop}
  (hQ:∀ v s₁,wpAny (model prog w.w) A (letOwnedTupleGo target (.ref I) v) (fun _ s₂=>wpAny (model prog w.w) A (assign target (compEnvC sc cl C env) v) Q' E s₂) E s₁→Q (some v) s₁)
  (q:∀ h' tk row vs,rows[i]?=some row→St (i + 1) h'→CompSt w N sc cl C D WR hB h' zs acc→KpB (compW sc cl C D wr) s.heap h'→RbL w Nr false h0 vs row→ts'.length=vs.length→
   (∀ (j:Nat) (x:Str) (v:Value),ts'[j]?=some x→vs[j]?=some v→Look (compEnvC sc cl C env) h' x v)→
   (∀ y u,y∉ts'→Look (compEnvC sc cl C env) s.heap y u→Look (compEnvC sc cl C env) h' y u)→Q' () (sx s h' tk)):
  wpAny (model prog w.w) A (pyNext (.ref I)) Q E s:=by
 have T:=X.T
 have fpD:=X.fpD
 have fpC:=X.fpC
 have fpc:=X.fpc
 have wrD:D∉wr:=fun m=>fpD (T.turns.sub D m)
 have wrC:C∉wr:=fun m=>fpC (T.turns.sub C m)
 have wrc:=X.wrc
 have fresh:=X.fresh
 refine T.turns.item i s _ _ hi st fun v h₁ tk₁ hMd kw₁=>hQ v _ ?_
 refine T.turns.go i v _ _ _ hMd fun h₂ hP st₂ kw₂=>?_
 obtain⟨vs,row,hrow,U,rr⟩:=T.row i v h₂ hi hP
 have k02:KpB (fun a=>a∈wr) s.heap h₂:=fun a o na e=>kw₂ a o na (kw₁ a o na e)
 refine assign_unp hh U fun h₃ k₃=>?_
 have k03:KpB (fun a=>a∈wr) s.heap h₃:=fun a o na e=>k₃ a o (k02 a o na e)
 obtain⟨m,hm⟩:=S.ns
 have ns₃:∃ m,h₃.Ns C m:=⟨m,hm.at' fun o e=>k03 C o wrC e⟩
 have cel₃:∀ x a,cl.lookup x=some a→∃ u,h₃.IsCell a u:=fun x a e=>by
  obtain⟨u,o,ho,hd⟩:=S.cel x a e
  exact⟨u,o,k03 a o (wrc x a e) ho,hd⟩
 refine storeL_ok (s:=(sx s h₃ tk₁)) (env:=compEnvC sc cl C env) X.kind X.d1 X.d2 ts' vs _ U.len X.nd (fun x m=>kindOf_ts (X.kx x m)) ns₃ (fun x m ky=>?_) fun h₄ tk₄ L=>?_
 ·obtain⟨a,ea⟩:=X.cell x (kindOf_cell (X.kx x m) ky)
  obtain⟨u,i⟩:=cel₃ x a ea
  exact⟨a,u,ea,i⟩
 have kB:∀ a o,a≠C→(∀ x,sc.names.lookup x=some .cell→cl.lookup x=some a→False)→h₃.get? a=some o→h₄.get? a=some o:=fun a o nc nx e=>L.kp a o (fun q=>by
  rcases q with q | ⟨x,m,ky,ea⟩
  ·exact nc q
  ·exact nx x (kindOf_cell (X.kx x m) ky) ea) e
 have k04w:KpB (compW sc cl C D wr) s.heap h₄:=fun a o na e=>kB a o (fun q=>na (.inr (.inl q))) (fun x ex ea=>na (.inr (.inr (.inr ⟨x,ex,ea⟩)))) (k03 a o (fun q=>na (.inr (.inr (.inl q)))) e)
 have k04:KpB (compW sc cl C D WR) s.heap h₄:=fun a o na e=>k04w a o (fun q=>na (compW_mono X.sub q)) e
 have st₄:St (i + 1) h₄:=T.turns.frame _ _ _ st₂ fun b hb o e=>kB b o (fun q=>fpC (q▸hb)) (fun x ex ea=>fpc x b ex ea hb) (k₃ b o e)
 have acc₄:acc h₄ zs:=Ga.but (fun a=>compW sc cl C D WR a∧a≠D) s.heap h₄ zs (fun a q=>⟨.inr q.1,q.2⟩) (fun a o na e=>by
  by_cases q:a=D
  ·subst q
   exact kB a o X.hDC (fun x ex ea=>X.clD x a ea rfl) (k03 a o wrD e)
  ·exact k04 a o (fun x=>na ⟨x,q⟩) e) (fun a o q e=>S.nt a o q.1 e) S.acc
 have alive:∀ a,compW sc cl C D WR a→∃ o,h₄.get? a=some o∧¬ (o.cls=.type "tuple"∧∃ vs n,o.data=.seq vs n):=fun a q=>by
  rcases q with rfl | rfl | q | ⟨x,ex,ea⟩
  ·exact Ga.lv h₄ zs acc₄
  ·obtain⟨m,hm⟩:=L.ns;exact ns_live hm
  ·by_cases qw:a∈wr
   ·exact T.live _ _ st₄ a qw
   ·by_cases qC:a=C
    ·subst qC;obtain⟨m,hm⟩:=L.ns;exact ns_live hm
    ·by_cases qx:∃ x,sc.names.lookup x=some .cell∧cl.lookup x=some a
     ·obtain⟨x,ex,ea⟩:=qx
      obtain⟨u,i⟩:=L.cel x a ea (cel₃ x a ea);exact cell_live i
     ·obtain⟨o,e⟩:=S.lw a (.inr (.inr (.inl q)))
      exact⟨o,kB a o qC (fun x ex ea=>qx ⟨x,ex,ea⟩) (k03 a o qw e),S.nt a o (.inr (.inr (.inl q))) e⟩
  ·obtain⟨u,i⟩:=L.cel x a ea (cel₃ x a ea);exact cell_live i
 refine q h₄ tk₄ row vs hrow st₄ ⟨L.ns,fun x a ea=>L.cel x a ea (cel₃ x a ea),fun a o e=>k04 a o (fun q=>by rw[fresh a q]at e;cases e) (S.kp a o e),fun a q=>let ⟨o,e,_⟩:=alive a q;⟨o,e⟩,fun a o q e t=>?_,acc₄⟩ k04w rr U.len L.look fun y u ny l=>L.rest y u ny (l.but k03 wrC fun a ea=>wrc y a ea)
 obtain⟨o',e',nt⟩:=alive a q
 rw[e]at e';cases e';exact nt t
noncomputable def accL(w:Pk)(N1:Addr→Prop)(D:Addr)(h:Heap)(zs:List V):Prop:=∃ (ys:List Value) (n:Nat),h.get? D=some (lst ys.toArray n)∧RbL w N1 false h ys zs
theorem gather_list{N1:Addr→Prop}{D:Addr}:Gather w N1 D (accL w N1 D) where
 but:=fun W h h' zs hW k nt ⟨ys,n,e,r⟩=>⟨ys,n,k D _ (fun q=>(hW D q).2 rfl) e,RbL.but (fun a q=>(hW a q).1) k nt r⟩
 lv:=fun h zs ⟨ys,n,e,r⟩=>⟨_,e,fun q=>absurd (Value.type.inj q.1) (by decide)⟩
theorem kpb_kp{W:Addr→Prop}{h0 a b:Heap}(fresh:∀ x,W x→h0.get? x=none)(k:Kp h0 a)(q:KpB W a b):Kp h0 b:=fun x o e=>q x o (fun wx=>by rw[fresh x wx]at e;cases e) (k x o e)
theorem CompSt.keeps{sc:Scope}{cl:List (Str × Addr)}{C D:Addr}{wr:List Addr}{h0:Heap}{zs:List V}{acc:Heap→List V→Prop}(Ga:Gather w (fun a=>N a∨compW sc cl C D wr a) D acc)(S:CompSt w N sc cl C D wr h0 h zs acc)(k:Kp h h'):CompSt w N sc cl C D wr h0 h' zs acc where
 ns:=let ⟨m,n⟩:=S.ns;⟨m,n.keeps k⟩
 cel:=fun x a e=>let ⟨u,i⟩:=S.cel x a e;⟨u,i.keeps k⟩
 kp:=S.kp.trans k
 lw:=fun a q=>let ⟨o,e⟩:=S.lw a q;⟨o,k _ _ e⟩
 nt:=fun a o q e t=>by
  obtain⟨o',e'⟩:=S.lw a q
  have:=k _ _ e'
  rw[e]at this;cases this
  exact S.nt a o q e' t
 acc:=Ga.but (fun _=>False) h h' zs (fun _ q=>q.elim) (fun a o _ e=>k a o e) (fun _ _ q=>q.elim) S.acc
theorem loop_list{sc:Scope}{ts':List Str}{cl:List (Str × Addr)}{C D I:Addr}{target elt:PySem.Expr}{ifs:List PySem.Expr}{gens:List Comprehension}{dp:Nat}{pos:Pos}{rows:List (List V)}{WR:List Addr}{hB h0 h1:Heap}{Nr:Addr→Prop}{fp wr:List Addr}{P Md:Nat→Value→Heap→Prop}{St:Nat→Heap→Prop}{R:Result→Shared→Prop}
  {c':Cx} {J:Heap→Prop} {k:List V→K.R} {zs0:List V} (hh:A.handled=none) (hp:PlainTurn (.ListComp elt gens sc pos) dp target elt ifs) (H:∀ b e,DOk w A c' b e (r c' b e)) (HT:∀ e,TOk w A c' e (r c' false e))
  (X:CompCx w A Nr sc ts' cl C D I target rows WR hB h0 h1 fp wr P Md St)
  (bnd:∀ h row vs,CompSt w N sc cl C D WR hB h (zs0++[]) (fun _ _=>True)→J h→KpB (compW sc cl C D wr) s.heap h→row∈rows→ts'.length=vs.length→(∀ (j:Nat) (x:Str) (v:Value),ts'[j]?=some x→vs[j]?=some v→Look (compEnvC sc cl C env) h x v)→RbL w Nr false h0 vs row→
   Cond w c' (compEnvC sc cl C env) (ρ ++ row.map .va) (fun a=>N a∨compW sc cl C D WR a) h)
  (hJ:∀ h h',(∀ y u,y∉ts'→Look (compEnvC sc cl C env) h y u→Look (compEnvC sc cl C env) h' y u)→J h→J h')
  (hlen:zs0.length + rows.length≤1000000) (st:St 0 s.heap) (S:CompSt w N sc cl C D WR hB s.heap zs0 (accL w (fun a=>N a∨compW sc cl C D WR a) D)) (j0:J s.heap)
  (hk:K.compK (r c' false elt) (K.tD (ifs.map (r c' false))) ρ rows k=some z)
  (hR:∀ h' tk zs,k zs=some z→zs.length≤rows.length→(∃ m,h'.Ns C m)→(∀ x a,cl.lookup x=some a→∃ u,h'.IsCell a u)→Kp hB h'→KpB (compW sc cl C D wr) s.heap h'→accL w (fun a=>N a∨compW sc cl C D WR a) D h' (zs0++zs)→NoT (fun a=>a=C) h'→J h'→R (.ok .next) (sx s h' tk)):
  codeAny (model prog w.w) A (.compLoop (.ListComp elt gens sc pos) dp (.ref I) (.ref D) (compEnvC sc cl C env)) R s:=by
 have T:=X.T
 have fresh:=X.fresh
 have Ga:Gather w (fun a=>N a∨compW sc cl C D WR a) D (accL w (fun a=>N a∨compW sc cl C D WR a) D):=gather_list
 have fpD:=X.fpD
 have fpC:=X.fpC
 have wrD:D∉wr:=fun m=>fpD (T.turns.sub D m)
 have wrC:C∉wr:=fun m=>fpC (T.turns.sub C m)
 have wrc:=X.wrc
 have clD:=X.clD
 have wW:∀ a,a∈wr→compW sc cl C D WR a:=fun a m=>.inr (.inr (.inl (X.sub a m)))
 refine codeAny_turns hp
  (fun n s'=>∃ i h tk zs,s'=(sx s h tk)∧i≤rows.length∧n=rows.length + 1 - i∧St i h∧CompSt w N sc cl C D WR hB h (zs0++zs) (accL w (fun a=>N a∨compW sc cl C D WR a) D)∧J h∧zs.length≤i∧KpB (compW sc cl C D wr) s.heap h∧
   K.compK (r c' false elt) (K.tD (ifs.map (r c' false))) ρ (rows.drop i) (fun ys=>k (zs++ys))=some z) ?_ (rows.length + 1)
  ⟨0,s.heap,s.toks,[],rfl,Nat.zero_le _,rfl,st,by rw[List.append_nil];exact S,j0,Nat.le_refl _,fun _ _ _ e=>e,hk⟩
 rintro n s' ⟨i,h,tk,zs,rfl,hi,rfl,st,S,j,hzl,kB,hk⟩
 by_cases hlt:i < rows.length
 ·refine comp_turn (s:=(sx s h tk)) hh X Ga hlt st S (fun v s₁ x=>x) fun h₄ tk₄ row vs hrow st₄ S₄ k₄ rr hl look rest=>?_
  have j₄:J h₄:=hJ h h₄ rest j
  have cnd:=bnd h₄ row vs ⟨S₄.ns,S₄.cel,S₄.kp,S₄.lw,S₄.nt,trivial⟩ j₄ (kB.trans k₄) (List.mem_of_getElem? hrow) hl look rr
  have kB4:KpB (compW sc cl C D wr) s.heap h₄:=kB.trans k₄
  obtain⟨rest',hdrop⟩:∃ l,rows.drop i=row::l∧l=rows.drop (i + 1):=⟨_,by rw[List.drop_eq_getElem_cons hlt];rw[List.getElem?_eq_getElem hlt]at hrow;rw[Option.some.inj hrow],rfl⟩
  obtain⟨hdrop,rfl⟩:=hdrop
  rw[hdrop]at hk
  have hk:K.bindK ρ row (fun ρ'=>K.tD (ifs.map (r c' false)) ρ' (r c' false elt ρ' fun y=>K.compK (r c' false elt) (K.tD (ifs.map (r c' false))) ρ (rows.drop (i + 1)) fun ys=>k (zs++(y::ys)))
   (K.compK (r c' false elt) (K.tD (ifs.map (r c' false))) ρ (rows.drop (i + 1)) fun ys=>k (zs++ys)))=some z:=hk
  rw[K.bindK_eq]at hk
  refine tests_ok (s:=(sx s h₄ tk₄)) HT ifs cnd hk fun t h₅ tk₅ ht k₅=>?_
  have S₅:=S₄.keeps Ga k₅
  have st₅:St (i + 1) h₅:=T.turns.frame _ _ _ st₄ fun b _ o e=>k₅ b o e
  have j₅:J h₅:=hJ h₄ h₅ (fun y u _ l=>l.keeps k₅) j₄
  have kB5:KpB (compW sc cl C D wr) s.heap h₅:=kB4.trans k₅.b
  cases t with
  | false=>
   simp only[Bool.false_eq_true,if_false]at ht ⊢
   exact⟨rows.length + 1 - (i + 1),by omega,i + 1,h₅,tk₅,zs,rfl,hlt,rfl,st₅,S₅,j₅,by omega,kB5,ht⟩
  | true=>
   simp only[if_true]at ht ⊢
   refine(H false elt).go (s:=(sx s h₅ tk₅)) (cnd.keeps k₅) ht fun y yv h₆ tk₆ hy k₆ ry=>?_
   have S₆:=S₅.keeps Ga k₆
   have st₆:St (i + 1) h₆:=T.turns.frame _ _ _ st₅ fun b _ o e=>k₆ b o e
   obtain⟨ys,no,hno,rb⟩:=S₆.acc
   refine wpAny_list_append_plain (s:=(sx s h₆ tk₆)) ⟨no,hno⟩ (fun h₇ pl₇ sb₇=>?_) (by
    rw[List.size_toArray,rb.length,List.length_append];exact Nat.le_trans (by omega) (show 1000000≤sizeLine by decide))
   have k₇:KpB (fun a=>a=D) h₆ h₇:=fun a o na e=>sb₇.extBut a o na e
   have dN:∀ a,a=D→N a∨compW sc cl C D WR a:=fun a q=>.inr (.inl q)
   have nD:NoT (fun a=>a=D) h₆:=notT_of ⟨_,hno,fun q=>absurd (Value.type.inj q.1) (by decide)⟩
   have k₇w:KpB (compW sc cl C D wr) h₆ h₇:=fun a o na e=>k₇ a o (fun q=>na (.inl q)) e
   have k₇W:KpB (compW sc cl C D WR) h₆ h₇:=fun a o na e=>k₇ a o (fun q=>na (.inl q)) e
   obtain⟨m,hm⟩:=S₆.ns
   obtain⟨n7,hn7⟩:=pl₇
   refine⟨rows.length + 1 - (i + 1),by omega,i + 1,h₇,tk₆,zs++[y],rfl,hlt,rfl,T.turns.frame _ _ _ st₆ fun b hb o e=>k₇ b o (fun q=>fpD (q▸hb)) e,?_,hJ h₆ h₇ (fun y u _ l=>l.but k₇ (Ne.symm X.hDC) fun a ea=>clD y a ea) (hJ h₅ h₆ (fun y u _ l=>l.keeps k₆) j₅),
    by rw[List.length_append,List.length_singleton];omega,(kB5.trans k₆.b).trans k₇w,by simpa [List.append_assoc] using hy⟩
   have alive:∀ a,compW sc cl C D WR a→∃ o,h₇.get? a=some o∧¬ (o.cls=.type "tuple"∧∃ vs n,o.data=.seq vs n):=fun a q=>by
    by_cases qd:a=D
    ·subst qd;exact⟨_,hn7,fun q=>absurd (Value.type.inj q.1) (by decide)⟩
    ·obtain⟨o,e⟩:=S₆.lw a q
     exact⟨o,k₇ a o qd e,S₆.nt a o q e⟩
   refine⟨⟨m,hm.at' fun o e=>k₇ C o (Ne.symm X.hDC) e⟩,fun x a ea=>?_,kpb_kp fresh S₆.kp k₇W,fun a q=>let ⟨o,e,_⟩:=alive a q;⟨o,e⟩,fun a o q e t=>?_,ys++[yv],n7,by simpa using hn7,?_⟩
   ·obtain⟨u,o,ho,hd⟩:=S₆.cel x a ea
    exact⟨u,o,k₇ a o (clD x a ea) ho,hd⟩
   ·obtain⟨o',e',nt⟩:=alive a q
    rw[e]at e';cases e';exact nt t
   ·rw[← List.append_assoc]
    exact(RbL.but dN k₇ nD rb).append (.cons (Rb.but dN k₇ nD ry) .nil)
 ·have hin:i=rows.length:=by omega
  subst hin
  rw[List.drop_of_length_le (Nat.le_refl _)]at hk
  have hk:k (zs++[])=some z:=hk
  rw[List.append_nil]at hk
  refine T.turns.done _ _ _ st fun h₁ tk₁ kw₁=>?_
  have k₁:KpB (fun a=>a∈wr) h h₁:=fun a o na e=>kw₁ a o na e
  have k₁w:KpB (compW sc cl C D wr) h h₁:=fun a o na e=>k₁ a o (fun q=>na (.inr (.inr (.inl q)))) e
  have k₁W:KpB (compW sc cl C D WR) h h₁:=fun a o na e=>k₁ a o (fun q=>na (wW a q)) e
  obtain⟨m,hm⟩:=S.ns
  have ns₁:h₁.Ns C m:=hm.at' fun o e=>k₁ C o wrC e
  refine hR h₁ tk₁ zs hk hzl ⟨m,ns₁⟩ (fun x a ea=>?_) (kpb_kp fresh S.kp k₁W) (kB.trans k₁w) (Ga.but (fun a=>a∈wr) h h₁ _ (fun a q=>⟨.inr (wW a q),fun e=>wrD (e▸q)⟩) k₁ (fun a o q e=>S.nt a o (wW a q) e) S.acc) (notT_of (ns_live ns₁)) (hJ h h₁ (fun y u _ l=>l.but k₁ wrC fun a ea=>wrc y a ea) j)
  obtain⟨u,o,ho,hd⟩:=S.cel x a ea
  exact⟨u,o,k₁ a o (wrc x a ea) ho,hd⟩
theorem nodupS_ok:∀ {l:List Str},nodupS l=true→l.Nodup
 | [],_=>List.nodup_nil
 | x::l,h=>by
  have h:(!l.contains x&&nodupS l)=true:=h
  simp only[Bool.and_eq_true,Bool.not_eq_true',List.contains_eq_mem,decide_eq_false_iff_not]at h
  exact List.nodup_cons.mpr ⟨h.1,nodupS_ok h.2⟩
theorem it_noset{bb:Bool}{iter:PySem.Expr}{k:Nat}{xs:List D}(h:K.itD r c bb iter=some (k,xs)):isSet iter=false:=by
 cases iter with
 | Set=>cases h
 | _=>rfl
theorem folded_pure{iter:PySem.Expr}(h:isSet iter=false)(y:Value):foldedSetIterable iter env y=pure y:=by
 cases iter with
 | Set=>cases h
 | _=>rfl
theorem is0{i:Int}(h:(i==0)=true):i=0:=by simpa using h
theorem turn_cond{sc:Scope}{ts:List Str}{cl:List (Str × Addr)}{C D:Addr}{wr:List Addr}{h0 h1 hb:Heap}{zs:List V}{acc:Heap→List V→Prop}(C0:Cond w c env ρ N h0)(ok:okScope c sc ts=true)(F:CompFr env sc cl C h0 h1 hb)
  (fresh:∀ a,compW sc cl C D wr a→h0.get? a=none) (S:CompSt w N sc cl C D wr h0 h zs acc):Cond w (c.ofComp sc ts) (compEnvC sc cl C env) (ρ ++ ts.map fun _=>.un) (fun a=>N a∨compW sc cl C D wr a) h:=
 comp_cond C0 ok F.free F.cell S.cel F.d2 S.kp (fun a q=>q.elim .inl fun q=>.inr (fresh a q)) fun a q=>q.elim (fun q=>let ⟨o,e⟩:=C0.live a q;⟨o,S.kp _ _ e⟩) (S.lw a)
theorem bind_cond{sc:Scope}{ts:List Str}{cl:List (Str × Addr)}{C D:Addr}{wr:List Addr}{h0 h1 hb:Heap}{zs:List V}{acc:Heap→List V→Prop}{row:List V}{vs:List Value}(C0:Cond w c env ρ N h0)(ok:okScope c sc ts=true)(F:CompFr env sc cl C h0 h1 hb)
  (fresh:∀ a,compW sc cl C D wr a→h0.get? a=none) (S:CompSt w N sc cl C D wr h0 h zs acc) (hl:ts.length=vs.length) (look:∀ (j:Nat) (x:Str) (v:Value),ts[j]?=some x→vs[j]?=some v→Look (compEnvC sc cl C env) h x v) (rr:RbL w N false h0 vs row):
  Cond w (c.ofComp sc ts) (compEnvC sc cl C env) (ρ ++ row.map .va) (fun a=>N a∨compW sc cl C D wr a) h:=by
 refine comp_bind C0.len (turn_cond C0 ok F fresh S) (by rw[hl];exact(All2.length rr).symm) fun j x d ej ed=>?_
 obtain⟨v,ev,rv⟩:=rr.get ed
 exact⟨v,look j x v ej ev,(rv.more fun a q=>q.elim .inl fun q=>.inr (fresh a q)).keeps S.kp⟩
noncomputable abbrev Fin(w:Pk)(A:Around)(s:Shared)(N:Addr→Prop)(k:V→R)(z:V)(use:Option (Value→Sem Unit))(Q:Value→Shared→Prop):Prop:=
 ∀ D C h' tk' zs,k (.list zs)=some z→Kp s.heap h'→s.heap.get? D=none→s.heap.get? C=none→D≠C→(∃ m,h'.Ns C m)→(∃ (ys:List Value) (n:Nat),h'.get? D=some (lst ys.toArray n)∧RbL w (fun a=>N a∨a=C) false h' ys zs)→
  compPost (model prog w.w) A E use Q (.ref D) C (.ok .next) (sx s h' tk')
noncomputable def compSem(elt:PySem.Expr)(gens:List Comprehension)(sc:Scope)(p:Pos)(env:Env)(use:Option (Value→Sem Unit)):Sem Value:=
 comprehension (.ListComp elt gens sc p) sc env (firstIterPos gens p) (newList []) (firstAsync gens) (firstIter gens env) use
noncomputable def CompOk(w:Pk)(A:Around)(c:Cx)(elt:PySem.Expr)(gens:List Comprehension)(sc:Scope)(p:Pos)(d:D):Prop:=
 ∀ (env:Env) (ρ:Rho) (N:Addr→Prop) (s:Shared) (z:V) (k:V→R) (use:Option (Value→Sem Unit)) (Q:Value→Shared→Prop),
  Cond w c env ρ N s.heap→d ρ k=some z→Fin w A s N k z use Q→wpAny (model prog w.w) A (compSem elt gens sc p env use) Q E s
theorem CompOk.d{elt:PySem.Expr}{gens:List Comprehension}{sc:Scope}{p:Pos}{d:D}{b:Bool}(H:CompOk w A c elt gens sc p d):DOk w A c b (.ListComp elt gens sc p) d:=by
 intro env ρ N s z k fr Q C0 h _ out
 rw[eval_ListComp]
 refine H env ρ N s z k none Q C0 h fun D C h' tk' zs hk kp zD zC hDC ⟨m,ns⟩ ⟨ys,n,hget,rb⟩=>⟨m,ns,fun h'' sb=>?_⟩
 have kb:KpB (fun a=>a=C) h' h'':=fun a o na e=>sb.extBut a o na e
 have kp2:Kp s.heap h'':=kpb_kp (fun x q=>by rw[q];exact zC) kp kb
 have nN:¬ N D:=fun q=>by obtain⟨o,e⟩:=C0.live _ q;rw[zD]at e;cases e
 exact out _ hk (.ref D) h'' tk' kp2 (Rb.lst b (fun _=>nN) (kb _ _ hDC hget) ((RbL.but (fun a q=>.inr q) kb (notT_of (ns_live ns)) rb).mono fun _ _ q=>q.less fun a na=>.inl na)) fun _ _=>⟨_,rfl,zD⟩
theorem comp_startP{sc:Scope}{ts:List Str}{e:PySem.Expr}{g:Comprehension}{gs:List Comprehension}{p:Pos}{newAcc:Sem Value}{obj:Obj}{use:Option (Value→Sem Unit)}{Q:Value→Shared→Prop}{PP:Heap→Heap→Addr→Addr→Prop}{bb:Bool}(hh:A.handled=none)(C0:Cond w c env ρ N s.heap)(ok:okScope c sc ts=true)(hns:isSet g.iter=false)(ha:g.is_async=0)
  (hclau:clausesOf e=g::gs) (hob:obj.isFreed=false) (hacc:∀ (s:Shared) (Q:Value→Shared→Prop) (E:Value→Shared→Prop),Q (.ref s.heap.objs.size) { s with heap:=s.heap.push obj }→wpAny (model prog w.w) A newAcc Q E s)
  (hst:∀ (it acc:Value) (env':Env) (R:Result→Shared→Prop) (s:Shared),codeAny (model prog w.w) A (.compLoop e 0 it acc env') R s→wpAny (model prog w.w) A (pyIter it) (fun it' s'=>codeAny (model prog w.w) A (.compLoop e 0 it' acc env') R s') (notedBy (model prog w.w) A env' fun x s'=>R (.error x) s') s→codeAny (model prog w.w) A (.compStart e 0 it acc env') R s)
  {rowsP:List (List V)→Prop} {target:PySem.Expr} {ts':List Str}
  (hi:∀ (Q':Value→Shared→Prop),(∀ rows,rowsP rows→Gives w A bb target ts' N s rows Q')→wpAny (model prog w.w) A (eval g.iter env) (fun v s₁=>wpAny (model prog w.w) A (pyIter v) Q' E s₁) E s)
  (fin:∀ D C h0 h' tk',Kp s.heap h0→s.heap.get? D=none→s.heap.get? C=none→D≠C→(∃ m,h'.Ns C m)→PP h0 h' D C→compPost (model prog w.w) A E use Q (.ref D) C (.ok .next) (sx s h' tk'))
  (lp:∀ rows I h0 h1 tk fp wr P Md St cl C D hb,rowsP rows→Kp s.heap h0→Itr w A bb target ts' N h0 h1 rows I fp wr P Md St→CompFr env sc cl C h0 h1 hb→h1.get? D=none→D≠C→(∀ x a,sc.names.lookup x=some .cell→cl.lookup x=some a→a≠D)→Kp h1 hb→hb.get? D=some obj→
   ∀ (R:Result→Shared→Prop),(∀ h' tk,(∃ m,h'.Ns C m)→PP h0 h' D C→R (.ok .next) (sx s h' tk))→
   codeAny (model prog w.w) A (.compLoop e 0 (.ref I) (.ref D) (compEnvC sc cl C env)) R (sx s hb tk)):
  wpAny (model prog w.w) A (comprehension e sc env p newAcc false (eval g.iter env) use) Q E s:=by
 obtain⟨o1,o2,o3,o4,o5⟩:=okScope_parts ok
 obtain⟨cl,hclos,hcl⟩:=closureFor_of (scope:=sc) (env:=env) fun y m=>by
  rcases (okName_parts (o2 _ m)).2.2 with ⟨q,_⟩ | ⟨q,_⟩ | ⟨_,q,_⟩ | ⟨q,_⟩
  ·cases q
  ·cases q
  ·exact C0.e0.has y q
  ·cases q
 refine wpAny_comprehension_free (cl:=cl) hclau (folded_pure hns) hclos o1 ?_ ?_
 ·intro y m q
  obtain⟨y,kk⟩:=y
  simp only at q
  subst q
  rcases (okName_parts (o2 _ m)).2.2 with ⟨_,_,q⟩ | ⟨q,_⟩ | ⟨q,_⟩ | ⟨q,_⟩
  ·exact q
  ·cases q
  ·cases q
  ·cases q
 ·refine hi _ fun rows hrows I h0 h1 tk fp wr P Md St kp T=>?_
  have z1:∀ a,h1.objs.size≤a→h1.get? a=none:=fun a ha=>by
   cases q:h1.get? a with
   | none=>rfl
   | some o=>exact absurd (Heap.lt_size q) (Nat.not_lt.mpr ha)
  refine hacc _ _ _ ?_
  generalize hH2:h1.push obj=H2
  have sz:H2.objs.size=h1.objs.size + 1:=by rw[← hH2,Heap.size_push]
  have k12:Kp h1 H2:=by rw[← hH2];exact kp_push _ _
  have hD2:H2.get? h1.objs.size=some obj:=by rw[← hH2];exact Heap.get?_push_size _ hob
  refine newEnv_comp ?_
  have F:=comp_frame (h1:=h1) (C0.keeps kp) ok (T.keep.trans k12) hcl fun a q=>z1 a (Nat.le_of_succ_le (by rw[sz]at q;exact q))
  have up:Kp H2 (pushCells (H2.push { cls:=.type "dict",data:=.dict #[] }) sc.names):=fun b o e=>pushCells_keeps _ _ b o (Heap.get?_push_of_some _ e)
  have hDC:h1.objs.size≠H2.objs.size:=by rw[sz];exact Nat.ne_of_lt (Nat.lt_succ_self _)
  have loop:=lp rows I h0 h1 tk fp wr P Md St _ H2.objs.size h1.objs.size _ hrows kp T F (z1 _ (Nat.le_refl _)) hDC (fun x a e ea=>Nat.ne_of_gt (Nat.lt_trans (by rw[sz];exact Nat.lt_succ_self _) (F.own x a e ea).2)) (k12.trans up) (up _ _ hD2)
   (compPost (model prog w.w) A E use Q (.ref h1.objs.size) H2.objs.size) fun h' tk' ns ff=>?_
  ·have st':St 0 (pushCells (H2.push { cls:=.type "dict",data:=.dict #[] }) sc.names):=T.turns.frame _ _ _ T.st0 fun b _ o e=>up b o (k12 b o e)
   exact hst _ _ _ _ _ loop (wpAny_mono (T.self 0 _ _ st' loop) (fun _ _ x=>x) noE)
  ·have zC:h0.get? H2.objs.size=none:=by
    cases q:h0.get? H2.objs.size with
    | none=>rfl
    | some o=>have:=T.keep _ _ q;rw[F.newC]at this;cases this
   have zD:h0.get? h1.objs.size=none:=by
    cases q:h0.get? h1.objs.size with
    | none=>rfl
    | some o=>have:=T.keep _ _ q;rw[z1 _ (Nat.le_refl _)]at this;cases this
   have z0:∀ a,h0.get? a=none→s.heap.get? a=none:=fun a e=>by
    cases q:s.heap.get? a with
    | none=>rfl
    | some o=>rw[kp _ _ q]at e;cases e
   exact fin _ _ h0 h' tk' kp (z0 _ zD) (z0 _ zC) hDC ns ff
theorem comp_startG{sc:Scope}{ts:List Str}{e:PySem.Expr}{g:Comprehension}{gs:List Comprehension}{p:Pos}{newAcc:Sem Value}{obj:Obj}{use:Option (Value→Sem Unit)}{Q:Value→Shared→Prop}{FF:Heap→Addr→Addr→Prop}(hh:A.handled=none)(C0:Cond w c env ρ N s.heap)(ok:okScope c sc ts=true)(hns:isSet g.iter=false)(ha:g.is_async=0)
  (hclau:clausesOf e=g::gs) (hob:obj.isFreed=false) (hacc:∀ (s:Shared) (Q:Value→Shared→Prop) (E:Value→Shared→Prop),Q (.ref s.heap.objs.size) { s with heap:=s.heap.push obj }→wpAny (model prog w.w) A newAcc Q E s)
  (hst:∀ (it acc:Value) (env':Env) (R:Result→Shared→Prop) (s:Shared),codeAny (model prog w.w) A (.compLoop e 0 it acc env') R s→wpAny (model prog w.w) A (pyIter it) (fun it' s'=>codeAny (model prog w.w) A (.compLoop e 0 it' acc env') R s') (notedBy (model prog w.w) A env' fun x s'=>R (.error x) s') s→codeAny (model prog w.w) A (.compStart e 0 it acc env') R s)
  {rowsP:List (List V)→Prop} {target:PySem.Expr} {ts':List Str}
  (hi:∀ (Q':Value→Shared→Prop),(∀ rows,rowsP rows→Gives w A true target ts' N s rows Q')→wpAny (model prog w.w) A (eval g.iter env) (fun v s₁=>wpAny (model prog w.w) A (pyIter v) Q' E s₁) E s)
  (fin:∀ D C h' tk',Kp s.heap h'→s.heap.get? D=none→s.heap.get? C=none→D≠C→(∃ m,h'.Ns C m)→FF h' D C→compPost (model prog w.w) A E use Q (.ref D) C (.ok .next) (sx s h' tk'))
  (lp:∀ rows I h0 h1 tk fp wr P Md St cl C D hb,rowsP rows→Kp s.heap h0→Itr w A true target ts' N h0 h1 rows I fp wr P Md St→CompFr env sc cl C h0 h1 hb→h1.get? D=none→D≠C→(∀ x a,sc.names.lookup x=some .cell→cl.lookup x=some a→a≠D)→Kp h1 hb→hb.get? D=some obj→
   ∀ (R:Result→Shared→Prop),(∀ h' tk,(∃ m,h'.Ns C m)→Kp h0 h'→FF h' D C→R (.ok .next) (sx s h' tk))→
   codeAny (model prog w.w) A (.compLoop e 0 (.ref I) (.ref D) (compEnvC sc cl C env)) R (sx s hb tk)):
  wpAny (model prog w.w) A (comprehension e sc env p newAcc false (eval g.iter env) use) Q E s:=
 comp_startP (PP:=fun h0 h' D C=>Kp h0 h'∧FF h' D C) hh C0 ok hns ha hclau hob hacc hst hi (fun D C h0 h' tk' kp zD zC hDC ns ⟨k0,ff⟩=>fin D C h' tk' (kp.trans k0) zD zC hDC ns ff)
  fun rows I h0 h1 tk fp wr P Md St cl C D hb a b c d e f g k l R hR=>lp rows I h0 h1 tk fp wr P Md St cl C D hb a b c d e f g k l R fun h' tk ns k0 ff=>hR h' tk ns ⟨k0,ff⟩
theorem comp_start{sc:Scope}{ts:List Str}{elt:PySem.Expr}{g:Comprehension}{gs:List Comprehension}{p:Pos}{k:V→R}{use:Option (Value→Sem Unit)}{Q:Value→Shared→Prop}(hh:A.handled=none)(C0:Cond w c env ρ N s.heap)(ok:okScope c sc ts=true)(hns:isSet g.iter=false)(ha:g.is_async=0)
  {rowsP:List (List V)→Prop} {target:PySem.Expr} {ts':List Str}
  (hi:∀ (Q':Value→Shared→Prop),(∀ rows,rowsP rows→Gives w A true target ts' N s rows Q')→wpAny (model prog w.w) A (eval g.iter env) (fun v s₁=>wpAny (model prog w.w) A (pyIter v) Q' E s₁) E s)
  (fin:Fin w A s N k z use Q)
  (lp:∀ rows I h0 h1 tk fp wr P Md St cl C D hb,rowsP rows→Kp s.heap h0→Itr w A true target ts' N h0 h1 rows I fp wr P Md St→CompFr env sc cl C h0 h1 hb→h1.get? D=none→D≠C→(∀ x a,sc.names.lookup x=some .cell→cl.lookup x=some a→a≠D)→Kp h1 hb→(∃ n,hb.get? D=some (lst #[] n))→
   ∀ (R:Result→Shared→Prop),(∀ h' tk zs,k (.list zs)=some z→(∃ m,h'.Ns C m)→Kp h0 h'→accL w (fun a=>N a∨compW sc cl C D wr a) D h' zs→NoT (fun a=>a=C) h'→R (.ok .next) (sx s h' tk))→
   codeAny (model prog w.w) A (.compLoop (.ListComp elt (g::gs) sc p) 0 (.ref I) (.ref D) (compEnvC sc cl C env)) R (sx s hb tk)):
  wpAny (model prog w.w) A (compSem elt (g::gs) sc p env use) Q E s:=by
 obtain⟨target0,iter0,ifs0,a0⟩:=g
 simp only at ha
 subst ha
 refine comp_startG (gs:=gs) (obj:={ cls:=.type "list",data:=.seq ([]:List Value).toArray }) (FF:=fun h' D C=>∃ zs,k (.list zs)=some z∧∃ (ys:List Value) (n:Nat),h'.get? D=some (lst ys.toArray n)∧RbL w (fun a=>N a∨a=C) false h' ys zs) hh C0 ok hns rfl rfl rfl
  (fun s Q E q=>wpAny_newList q (by decide)) (fun it acc env' R s h h'=>codeAny_compStart_list h h') hi (fun D C h' tk' kp zD zC hDC ns ⟨zs,hk,x⟩=>fin D C h' tk' zs hk kp zD zC hDC ns x) ?_
 intro rows I h0 h1 tk fp wr P Md St cl C D hb hr kp T F hD hDC hDc k1b ho R hR
 exact lp rows I h0 h1 tk fp wr P Md St cl C D hb hr kp T F hD hDC hDc k1b ⟨0,ho⟩ R fun h' tk zs hk ns k0 ⟨ys,n,hg,rb⟩ _=>hR h' tk ns k0 ⟨zs,hk,ys,n,hg,rb.mono fun _ _ q=>q.less fun a na=>na.elim .inl fun e=>.inr (.inr (.inl e))⟩
theorem acc_nil{N1:Addr→Prop}{D:Addr}(e:∃ n,h.get? D=some (lst #[] n)):accL w N1 D h []:=let ⟨n,e⟩:=e;⟨[],n,e,.nil⟩
theorem comp1_ok(HS:Snd w A O r)(hc:CallOk w A O c.fns c.lits c.fresh)(hh:A.handled=none){elt:PySem.Expr}{sc:Scope}{ts:List Str}{g:Comprehension}{p:Pos}(ht:tgNames g.target=some ts):
  CompOk w A c elt [g] sc p (K.compD1 r c elt sc ts g):=by
 intro env ρ N s z k use Q C0 h out
 unfold K.compD1 at h
 replace h:=if_d h
 obtain⟨q,h⟩:=h
 simp only[Bool.and_eq_true]at q
 obtain⟨⟨ok,ha⟩,hnd⟩:=q
 obtain⟨o1,o2,o3,o4,o5⟩:=okScope_parts ok
 cases hit:K.itD r c true g.iter with
 | none=>rw[hit]at h;cases h
 | some kx=>
 obtain⟨kd,xs⟩:=kx
 rw[hit]at h
 replace h:=if_d h
 obtain⟨hk,h⟩:=h
 have HC:=HS (c.ofComp sc ts) hc
 refine comp_start (k:=k) hh C0 ok (it_noset hit) (is0 ha) (rowsP:=fun rows=>K.compK (r (c.ofComp sc ts) false elt) (K.tD (g.ifs.map (r (c.ofComp sc ts) false))) ρ rows (fun l=>k (.list l))=some z∧rows.length≤1000000)
  (fun Q' f=>src_ok hh (HS c hc).1 C0 ht hit hk h fun rows hr hl=>f rows ⟨hr,hl⟩) out ?_
 intro rows I h0 h1 tk fp wr P Md St cl C D hb ⟨hrows,hlen⟩ kp T F hD hDC hDc k1b hacc R hR
 have z01:∀ a,h1.get? a=none→h0.get? a=none:=fun a e=>by
  cases q:h0.get? a with
  | none=>rfl
  | some o=>rw[T.keep _ _ q]at e;cases e
 have dead:∀ a,h1.get? a=none→a∉fp:=fun a e m=>by obtain⟨o,e'⟩:=T.fpl a m;rw[e]at e';cases e'
 have wrc:∀ x a,cl.lookup x=some a→a∉wr:=fun x a ea m=>by
  rcases F.out x a ea with z | ⟨o,z⟩
  ·exact dead a z (T.turns.sub a m)
  ·rw[T.new a m]at z;cases z
 have clD:∀ x a,cl.lookup x=some a→a≠D:=fun x a ea q=>by
  subst q
  obtain⟨u,o,ho,hd⟩:=F.cel x a ea
  obtain⟨n,e⟩:=hacc
  rw[e]at ho;cases ho;cases hd
 have X:CompCx w A N sc ts cl C D I g.target rows wr h0 h0 h1 fp wr P Md St:=⟨o1,o3,nodupS_ok hnd,T,F.cell,clD,F.d1,F.d2,hDC,dead C F.newC,dead D hD,fun x a e ea=>dead a (F.own x a e ea).1,wrc,fun a m=>m,fun a q=>by
  rcases q with rfl | rfl | q | ⟨x,ex,ea⟩
  ·exact z01 _ hD
  ·exact z01 _ F.newC
  ·exact T.new a q
  ·exact z01 _ (F.own x a ex ea).1⟩
 have st':St 0 hb:=T.turns.frame _ _ _ T.st0 fun b _ o e=>k1b b o e
 obtain⟨nD,hDg⟩:=hacc
 have alive:∀ a,compW sc cl C D wr a→∃ o,hb.get? a=some o∧¬ (o.cls=.type "tuple"∧∃ vs n,o.data=.seq vs n):=fun a q=>by
  rcases q with rfl | rfl | q | ⟨x,ex,ea⟩
  ·exact⟨_,hDg,fun q=>absurd (Value.type.inj q.1) (by decide)⟩
  ·obtain⟨m,hm⟩:=F.ns;exact ns_live hm
  ·exact T.live _ _ st' a q
  ·obtain⟨u,i⟩:=F.cel x a ea;exact cell_live i
 have S:CompSt w N sc cl C D wr h0 hb [] (accL w (fun a=>N a∨compW sc cl C D wr a) D):=⟨F.ns,F.cel,T.keep.trans k1b,fun a q=>let ⟨o,e,_⟩:=alive a q;⟨o,e⟩,fun a o q e t=>by
  obtain⟨o',e',nt⟩:=alive a q
  rw[e]at e';cases e';exact nt t,acc_nil ⟨nD,hDg⟩⟩
 obtain⟨tg,it0,ifs0,a0⟩:=g
 have ha:a0=0:=is0 ha
 subst ha
 refine loop_list (s:=(sx s hb tk)) (zs0:=[]) (J:=fun _=>True) (c':=c.ofComp sc ts) hh (plain_one elt tg it0 ifs0 sc p) HC.1 HC.2 X (fun h row vs S' _ _ _ hl look rr=>bind_cond (C0.keeps kp) ok F X.fresh S' hl look rr) (fun _ _ _ _=>trivial) (by simpa using hlen) st' S trivial hrows ?_
 intro h' tk' zs hk' _ ns cel k0 _ acc nt _
 exact hR h' tk' zs hk' ns k0 (by simpa using acc) nt
theorem src_list(hh:A.handled=none){b:Bool}{e:PySem.Expr}{x:Str}{p:Pos}{d:D}(H:DOk w A c b e d)(C:Cond w c env ρ N s.heap){k:V→R}{G:List V→Prop}(h:d ρ k=some z)(hk:∀ y,k y=some z→∃ l,itemsOf y=some l∧G l){Q:Value→Shared→Prop}
  (out:∀ l y v I h0 h1 tk fp wr P Md St,G l→itemsOf y=some l→Rb w N b h0 v y→Kp s.heap h0→Itr w A true (.Name x p) [x] N h0 h1 (l.map fun x=>[x]) I fp wr P Md St→(∀ a∈fp,a∈wr∨v=.ref a)→Q (.ref I) (sx s h1 tk)):wpAny (model prog w.w) A (eval e env) (fun v s₁=>wpAny (model prog w.w) A (pyIter v) Q E s₁) E s:=
 H.go C h fun y v h' tk hy kp rv=>by
  obtain⟨l,hl,g⟩:=hk y hy
  exact begins_list (s:=(sx s h' tk)) hh hl (weak_t rv) fun I h1 fp wr P Md St T f=>out l y v I h' h1 tk fp wr P Md St g hl rv kp T.any f
theorem not_src{v:Value}{y:V}{l:List V}{a:Addr}(r:Rb w N false h v y)(hl:itemsOf y=some l)(na:N a)(nt:NoT (fun b=>b=a) h):v ≠ .ref a:=by
 rintro rfl
 cases y with
 | list ds=>
  obtain⟨a',vs,n,e,_,_,q⟩:=rb_lst_inv r
  cases e;exact q rfl na
 | tuple ds=>
  obtain⟨a',vs,n,e,g,_⟩:=rb_tup_inv r
  cases e;exact nt a _ rfl g ⟨rfl,_,_,rfl⟩
 | _=>cases hl
theorem cond_set{i:Nat}{x:Str}{v:Value}{d:V}(C:Cond w c env ρ N h)(hx:c.ls[i]?=some x)(l:Look env h x v)(r:Rb w N false h v d):Cond w c env (ρ.set i (.va d)) N h:=by
 refine⟨C.e0,fun y j sl hs hsl=>?_,C.gi,C.live,by rw[List.length_set];exact C.len,C.cel,C.dis⟩
 by_cases q:j=i
 ·subst q
  have hy:=idxS_at y _ _ _ (slot_idx hs)
  rw[Nat.sub_zero,hx]at hy
  cases hy
  have hlt:j < ρ.length:=by
   rcases Nat.lt_or_ge j ρ.length with q | q
   ·exact q
   ·rw[List.getElem?_eq_none (by rw[List.length_set];exact q)]at hsl;cases hsl
  rw[List.getElem?_set_self hlt]at hsl
  cases hsl
  exact⟨v,l,r⟩
 ·rw[List.getElem?_set_ne (fun e=>q e.symm)]at hsl
  exact C.inv y j sl hs hsl
theorem codeAny_outer{elt t1 i1 t2 i2:PySem.Expr}{sc:Scope}{pos:Pos}{it acc:Value}{env:Env}{R:Result→Shared→Prop}(hs:isSet i2=false)(I:Nat→Shared→Prop)
  (turn:∀ n s,I n s→wpAny (model prog w.w) A (pyNext it) (fun r s₁=>match r with
   | none=>R (.ok .next) s₁
   | some v=>wpAny (model prog w.w) A (letOwnedTupleGo t1 it v) (fun _ s₂'=>wpAny (model prog w.w) A (assign t1 env v) (fun _ s₂=>
     wpAny (model prog w.w) A (eval i2 env) (fun x s₃=>wpAny (model prog w.w) A (pyIter x) (fun it2 s₄=>
      codeAny (model prog w.w) A (.compStart (.ListComp elt [⟨t1,i1,[],0⟩,⟨t2,i2,[],0⟩] sc pos) 1 it2 acc env) (fun r s'=>match r with
       | .ok _=>∃ m,m < n∧I m s'
       | .error e=>False) s₄)
      E s₃) E s₂) E s₂')
     E s₁) E s)
  (n:Nat) (h:I n s):codeAny (model prog w.w) A (.compLoop (.ListComp elt [⟨t1,i1,[],0⟩,⟨t2,i2,[],0⟩] sc pos) 0 it acc env) R s:=by
 refine codeAny_loop rfl I (fun n s hI=>?_) n h
 show wpAny _ A ((compTurn (.ListComp elt [⟨t1,i1,[],0⟩,⟨t2,i2,[],0⟩] sc pos) 0 it acc env).onRaise (fun x=>do noteFrame x env;theTreesLotGoes x)) _ _ s
 refine wpAny_noted ?_
 have e:compTurn (.ListComp elt [⟨t1,i1,[],0⟩,⟨t2,i2,[],0⟩] sc pos) 0 it acc env=(do
  standAt i1.pos
  match ← pyNext it with
  | none=>pure (.done .next)
  | some v=>
   letOwnedTupleGo t1 it v
   assign t1 env v
   let x ← eval i2 env
   standAt i2.pos
   let x ← foldedSetIterable i2 env x
   let _ ← runOwn (.compStart (.ListComp elt [⟨t1,i1,[],0⟩,⟨t2,i2,[],0⟩] sc pos) 1 (← holding [x] (pyIter x)) acc env) env
   again (.compLoop (.ListComp elt [⟨t1,i1,[],0⟩,⟨t2,i2,[],0⟩] sc pos) 0 it acc env)):=by rfl
 rw[e]
 refine wpAny_bind (wpAny_standAt (wpAny_bind (wpAny_mono (turn n s hI) (fun r s₁ h₁=>?_) noE)))
 cases r with
 | none=>exact wpAny_pure h₁
 | some v=>
  refine wpAny_bind (wpAny_mono h₁ (fun _ s₂' h₂'=>?_) noE)
  refine wpAny_bind (wpAny_mono h₂' (fun _ s₂ h₂=>?_) noE)
  refine wpAny_bind (wpAny_mono h₂ (fun x s₃ h₃=>?_) noE)
  refine wpAny_bind (wpAny_standAt (wpAny_bind (wpAny_of_eq (folded_pure hs x) (wpAny_bind (wpAny_holding (wpAny_mono h₃ (fun it2 s₄ h₄=>?_) noE))))))
  refine wpAny_bind (wpAny_runOwn ?_)
  rw[Around.mark_none]
  refine codeAny_mono h₄ fun r s' hr=>?_
  cases r with
  | ok f=>exact wpAny_pure ⟨rfl,hr⟩
  | error e=>exact hr.elim
theorem compStart1{elt t1 i1 t2 i2:PySem.Expr}{sc:Scope}{pos:Pos}{it acc:Value}{env:Env}{R:Result→Shared→Prop}
  (h0:codeAny (model prog w.w) A (.compLoop (.ListComp elt [⟨t1,i1,[],0⟩,⟨t2,i2,[],0⟩] sc pos) 1 it acc env) R s)
  (h:wpAny (model prog w.w) A (pyIter it) (fun it' s'=>codeAny (model prog w.w) A (.compLoop (.ListComp elt [⟨t1,i1,[],0⟩,⟨t2,i2,[],0⟩] sc pos) 1 it' acc env) R s')
   (notedBy (model prog w.w) A env fun x s'=>R (.error x) s') s):
  codeAny (model prog w.w) A (.compStart (.ListComp elt [⟨t1,i1,[],0⟩,⟨t2,i2,[],0⟩] sc pos) 1 it acc env) R s:=by
 refine codeAny_of_tree ?_
 show wpAny _ _ ((compStart (.ListComp elt [⟨t1,i1,[],0⟩,⟨t2,i2,[],0⟩] sc pos) 1 it acc env).onRaise (fun x=>do noteFrame x env;standAt theWindowsPlace)) _ _ s
 refine wpAny_notedAt ?_
 unfold compStart
 show wpAny _ _ (ask >>= _) _ _ s
 refine wpAny_bind (wpAny_askSetting (wpAny_ite ?_))
 split
 ·first
   | exact wpAny_bind (wpAny_pure (wpAny_pure (And.intro rfl h0)))
   | exact wpAny_pure (And.intro rfl h0)
 ·first
   | exact wpAny_bind (wpAny_rule (wpAny_bind (wpAny_standAt (wpAny_bind (wpAny_mono h (fun it' s' h'=>wpAny_pure (And.intro rfl h')) fun _ _ x=>x)))))
   | (refine wpAny_bind (wpAny_rule ?_);show wpAny _ _ (standAt i2.pos >>= _) _ _ s;exact wpAny_bind (wpAny_standAt (wpAny_bind (wpAny_mono h (fun it' s' h'=>wpAny_pure (And.intro rfl h')) fun _ _ x=>x))))
theorem inner_eq{elt:D}{ρ1:Rho}{ih:(List V→R)→R}(hih:∀ k,ih k=ih k):∀ (l2:List V) (k:List V→R),
  @List.rec V (fun _=>(List V→R)→R) ih (fun y _ ih2 k=>K.bindK ρ1 [y] fun ρ3=>elt ρ3 fun z=>ih2 fun r=>k (z::r)) l2 k=K.compK elt K.tnil ρ1 (l2.map fun y=>[y]) fun zs=>ih fun r=>k (zs++r)
 | [],k=>rfl
 | y::l2,k=>by
  show(K.bindK ρ1 [y] fun ρ3=>elt ρ3 fun z=>@List.rec V (fun _=>(List V→R)→R) ih (fun y _ ih2 k=>K.bindK ρ1 [y] fun ρ3=>elt ρ3 fun z=>ih2 fun r=>k (z::r)) l2 fun r=>k (z::r))=_
  have e:(fun ρ3=>elt ρ3 fun z=>@List.rec V (fun _=>(List V→R)→R) ih (fun y _ ih2 k=>K.bindK ρ1 [y] fun ρ3=>elt ρ3 fun z=>ih2 fun r=>k (z::r)) l2 fun r=>k (z::r))=fun ρ3=>elt ρ3 fun z=>K.compK elt K.tnil ρ1 (l2.map fun y=>[y]) fun zs=>ih fun r=>k (z::(zs++r)):=by
   funext ρ3
   congr 1
   funext z
   exact inner_eq hih l2 fun r=>k (z::r)
  rw[e];rfl
theorem comp_base{sc:Scope}{ts ts':List Str}{cl:List (Str × Addr)}{C D I:Addr}{target:PySem.Expr}{rows:List (List V)}{h0 h1 hb:Heap}{fp wr:List Addr}{P Md:Nat→Value→Heap→Prop}{St:Nat→Heap→Prop}
  (ok:okScope c sc ts=true) (sub:∀ x∈ts',x∈ts) (nd:ts'.Nodup) (T:Itr w A true target ts' N h0 h1 rows I fp wr P Md St) (F:CompFr env sc cl C h0 h1 hb) (hD:h1.get? D=none) (hDC:D≠C) (k1b:Kp h1 hb) {ob:Obj} {acc:Heap→List V→Prop} (hDg:hb.get? D=some ob) (hot:¬ (ob.cls=.type "tuple"∧∃ vs n,ob.data=.seq vs n)) (hoc:∀ u,ob.data ≠ .cell u) (hacc:acc hb []):
  CompCx w A N sc ts' cl C D I target rows wr h0 h0 h1 fp wr P Md St∧CompSt w N sc cl C D wr h0 hb [] acc∧St 0 hb:=by
 obtain⟨o1,o2,o3,o4,o5⟩:=okScope_parts ok
 have z01:∀ a,h1.get? a=none→h0.get? a=none:=fun a e=>by
  cases q:h0.get? a with
  | none=>rfl
  | some o=>rw[T.keep _ _ q]at e;cases e
 have dead:∀ a,h1.get? a=none→a∉fp:=fun a e m=>by obtain⟨o,e'⟩:=T.fpl a m;rw[e]at e';cases e'
 have st':St 0 hb:=T.turns.frame _ _ _ T.st0 fun b _ o e=>k1b b o e
 refine⟨⟨o1,fun x m=>o3 x (sub x m),nd,T,F.cell,fun x a ea q=>?_,F.d1,F.d2,hDC,dead C F.newC,dead D hD,fun x a e ea=>dead a (F.own x a e ea).1,fun x a ea m=>?_,fun a m=>m,fun a q=>?_⟩,?_,st'⟩
 ·subst q
  obtain⟨u,o,ho,hd⟩:=F.cel x a ea
  rw[hDg]at ho;cases ho;exact hoc _ hd
 ·rcases F.out x a ea with z | ⟨o,z⟩
  ·exact dead a z (T.turns.sub a m)
  ·rw[T.new a m]at z;cases z
 ·rcases q with rfl | rfl | q | ⟨x,ex,ea⟩
  ·exact z01 _ hD
  ·exact z01 _ F.newC
  ·exact T.new a q
  ·exact z01 _ (F.own x a ex ea).1
 ·have alive:∀ a,compW sc cl C D wr a→∃ o,hb.get? a=some o∧¬ (o.cls=.type "tuple"∧∃ vs n,o.data=.seq vs n):=fun a q=>by
   rcases q with rfl | rfl | q | ⟨x,ex,ea⟩
   ·exact⟨_,hDg,hot⟩
   ·obtain⟨m,hm⟩:=F.ns;exact ns_live hm
   ·exact T.live _ _ st' a q
   ·obtain⟨u,i⟩:=F.cel x a ea;exact cell_live i
  exact⟨F.ns,F.cel,T.keep.trans k1b,fun a q=>let ⟨o,e,_⟩:=alive a q;⟨o,e⟩,fun a o q e t=>by
   obtain⟨o',e',nt⟩:=alive a q
   rw[e]at e';cases e';exact nt t,hacc⟩
theorem comp2_ok(HS:Snd w A O r)(hc:CallOk w A O c.fns c.lits c.fresh)(hh:A.handled=none){elt i1 i2:PySem.Expr}{sc:Scope}{x y:Str}{px py p:Pos}(ok:okScope c sc [x,y]=true)(hxy:x≠y)(hs1:isSet i1=false)(hs2:isSet i2=false):
  CompOk w A c elt [⟨.Name x px,i1,[],0⟩,⟨.Name y py,i2,[],0⟩] sc p (K.cComp2 (r (c.ofComp sc [x,y]) false elt) (r c false i1) (r (c.ofComp sc [x,y]) false i2)):=by
 intro env ρ N s z k use Q C0 h fin
 have HC:=HS (c.ofComp sc [x,y]) hc
 refine comp_start (k:=k) hh C0 ok hs1 rfl (rowsP:=fun rows=>∃ l,rows=l.map (fun x=>[x])∧l.length≤1000∧K.compK2 (r (c.ofComp sc [x,y]) false elt) (r (c.ofComp sc [x,y]) false i2) ρ l (fun l=>k (.list l))=some z) (target:=.Name x px) (ts':=[x])
  (fun Q' f=>src_list hh ((HS c hc).1 false i1) C0 h (G:=fun l=>l.length≤1000∧K.compK2 (r (c.ofComp sc [x,y]) false elt) (r (c.ofComp sc [x,y]) false i2) ρ l (fun l=>k (.list l))=some z) (fun u hu=>by
   obtain⟨l,rfl,hu⟩:=K.vList_some hu
   obtain⟨h1,h2⟩:=K.okS_some hu
   exact⟨l,rfl,h1,h2⟩) fun l u v I h0 h1 tk fp wr P Md St g hl rv kp T _=>f _ ⟨l,rfl,g.1,g.2⟩ I h0 h1 tk fp wr P Md St kp T) fin ?_
 rintro rows I h0 h1 tk fp wr P Md St cl C D hb ⟨l,rfl,hlen,hk⟩ kp T F hD hDC hDc k1b hacc R hR
 obtain⟨nD,hDg⟩:=hacc
 obtain⟨X,S,st⟩:=comp_base (ts':=[x]) (acc:=accL w (fun a=>N a∨compW sc cl C D wr a) D) ok (fun u m=>by simp at m;simp [m]) (by simp) T F hD hDC k1b hDg (fun q=>absurd (Value.type.inj q.1) (by decide)) (fun u q=>nomatch q) (acc_nil ⟨nD,hDg⟩)
 have fresh:=X.fresh
 have C00:=C0.keeps kp
 have lsx:(c.ofComp sc [x,y]).ls[ρ.length]?=some x:=by
  show(c.ls++[x,y])[ρ.length]?=some x
  rw[C00.len,List.getElem?_append_right (Nat.le_refl _),Nat.sub_self];rfl
 have lsy:(c.ofComp sc [x,y]).ls[ρ.length + 1]?=some y:=by
  show(c.ls++[x,y])[ρ.length + 1]?=some y
  rw[C00.len,List.getElem?_append_right (Nat.le_succ _),show c.ls.length + 1 - c.ls.length=1 by omega];rfl
 have n1:∀ {WR:List Addr} {a:Addr},(∀ a,compW sc cl C D WR a→h0.get? a=none)→(N a∨compW sc cl C D WR a)→N a∨h0.get? a=none:=fun f q=>q.elim .inl fun q=>.inr (f _ q)
 refine codeAny_outer hs2
  (fun n s'=>∃ i h tk zs,s'=(sx s h tk)∧i≤l.length∧n=l.length + 1 - i∧St i h∧CompSt w N sc cl C D wr h0 h zs (accL w (fun a=>N a∨compW sc cl C D wr a) D)∧zs.length≤1000 * i∧KpB (compW sc cl C D wr) hb h∧
   K.compK2 (r (c.ofComp sc [x,y]) false elt) (r (c.ofComp sc [x,y]) false i2) ρ (l.drop i) (fun ys=>k (.list (zs++ys)))=some z) ?_ (l.length + 1)
  ⟨0,hb,tk,[],rfl,Nat.zero_le _,rfl,st,S,Nat.zero_le _,fun _ _ _ e=>e,by simpa using hk⟩
 rintro n s' ⟨i,h,tk,zs,rfl,hi,rfl,st,S,hzl,kB,hk⟩
 by_cases hlt:i < l.length
 ·refine comp_turn (s:=(sx s h tk)) hh X gather_list (by simpa using hlt) st S (fun v s₁ x=>x) fun h₄ tk₄ row vs hrow st₄ S₄ k₄ rr hl look rest=>?_
  obtain⟨dx,hdx⟩:=getL hlt
  rw[List.getElem?_map,hdx]at hrow
  cases hrow
  obtain⟨vx,rfl,rx⟩:=one_of rr
  have lx:Look (compEnvC sc cl C env) h₄ x vx:=look 0 x vx rfl rfl
  have kB4:KpB (compW sc cl C D wr) hb h₄:=kB.trans k₄
  have cnd:Cond w (c.ofComp sc [x,y]) (compEnvC sc cl C env) (ρ ++ [.va dx,.un]) (fun a=>N a∨compW sc cl C D wr a) h₄:=by
   have:=cond_set (turn_cond C00 ok F fresh S₄) lsx lx ((rx.more fun a q=>n1 fresh q).keeps S₄.kp)
   simpa using this
  rw[List.drop_eq_getElem_cons hlt,show l[i]=dx from by rw[List.getElem?_eq_getElem hlt]at hdx;exact Option.some.inj hdx]at hk
  replace hk:K.bindK ρ [dx] (fun ρ1=>K.appK ρ1 [.un] fun ρ2=>r (c.ofComp sc [x,y]) false i2 ρ2 fun u=>K.vList u fun l2=>K.okS l2 (
   @List.rec V (fun _=>(List V→K.R)→K.R) (fun k=>K.compK2 (r (c.ofComp sc [x,y]) false elt) (r (c.ofComp sc [x,y]) false i2) ρ (l.drop (i + 1)) k) (fun u2 _ ih2 k=>K.bindK ρ1 [u2] fun ρ3=>r (c.ofComp sc [x,y]) false elt ρ3 fun z=>ih2 fun r=>k (z::r)) l2 (fun ys=>k (.list (zs++ys)))))=some z:=hk
  rw[K.bindK_eq,K.appK_eq]at hk
  rw[show ρ ++ List.map Sl.va [dx]++[Sl.un]=ρ ++ [.va dx,.un] by simp]at hk
  refine src_list (s:=(sx s h₄ tk₄)) (x:=y) (p:=py) hh (HC.1 false i2) cnd hk (G:=fun l2=>l2.length≤1000∧K.compK (r (c.ofComp sc [x,y]) false elt) K.tnil (ρ ++ [.va dx]) (l2.map fun y=>[y])
   (fun zs'=>K.compK2 (r (c.ofComp sc [x,y]) false elt) (r (c.ofComp sc [x,y]) false i2) ρ (l.drop (i + 1)) fun ys=>k (.list (zs++(zs' ++ ys))))=some z) (fun u hu=>by
    obtain⟨l2,rfl,hu⟩:=K.vList_some hu
    obtain⟨q1,q2⟩:=K.okS_some hu
    rw[inner_eq (fun _=>rfl)]at q2
    exact⟨l2,rfl,q1,q2⟩) ?_
  rintro l2 u v I' h0' h1' tk' fp' wr' P' Md' St' ⟨hl2,hk2⟩ hitem rv kp' T' hfp'
  have S5:=S₄.keeps (gather_list) kp'
  have kp':Kp h₄ h0':=kp'
  have aliveW:∀ a,compW sc cl C D wr a→∃ o,h0'.get? a=some o:=S5.lw
  have notw:∀ a o,h0'.get? a=some o→a∉wr':=fun a o e m=>by rw[T'.new a m]at e;cases e
  have notfp:∀ a,compW sc cl C D wr a→a∉fp':=fun a q m=>by
   obtain⟨o,e⟩:=aliveW a q
   rcases hfp' a m with m | e'
   ·exact notw a o e m
   ·exact not_src rv hitem (.inr q) (fun b o qb eo=>by subst qb;exact S5.nt b o q eo) e'
  have mono:∀ {a:Addr},compW sc cl C D wr a→compW sc cl C D (wr++wr') a:=fun q=>compW_mono (fun a m=>List.mem_append.mpr (.inl m)) q
  have mono':∀ {a:Addr},compW sc cl C D wr' a→compW sc cl C D (wr++wr') a:=fun q=>compW_mono (fun a m=>List.mem_append.mpr (.inr m)) q
  have split:∀ {a:Addr},compW sc cl C D (wr++wr') a→compW sc cl C D wr a∨a∈wr':=fun q=>by
   rcases q with q | q | q | q
   ·exact .inl (.inl q)
   ·exact .inl (.inr (.inl q))
   ·rcases List.mem_append.mp q with m | m
    ·exact .inl (.inr (.inr (.inl m)))
    ·exact .inr m
   ·exact .inl (.inr (.inr (.inr q)))
  have new0:∀ a,a∈wr'→h0.get? a=none:=fun a m=>by
   cases q:h0.get? a with
   | none=>rfl
   | some o=>have:=S5.kp _ _ q;rw[T'.new a m]at this;cases this
  have X':CompCx w A (fun a=>N a∨compW sc cl C D wr a) sc [y] cl C D I' (.Name y py) (l2.map fun x=>[x]) (wr++wr') h0 h0' h1' fp' wr' P' Md' St':=
   ⟨X.kind,fun u m=>by simp at m;subst m;exact(okScope_parts ok).2.2.1 u (by simp),by simp,T',X.cell,X.clD,X.d1,X.d2,X.hDC,notfp C (.inr (.inl rfl)),notfp D (.inl rfl),fun u a e ea=>notfp a (.inr (.inr (.inr ⟨u,e,ea⟩))),fun u a ea m=>by
    obtain⟨_,o,e,_⟩:=S5.cel u a ea
    exact notw a o e m,fun a m=>List.mem_append.mpr (.inr m),fun a q=>(split q).elim (fresh a) (new0 a)⟩
  have alive':∀ a,compW sc cl C D (wr++wr') a→∃ o,h1'.get? a=some o∧¬ (o.cls=.type "tuple"∧∃ vs n,o.data=.seq vs n):=fun a q=>by
   rcases split q with q | m
   ·obtain⟨o,e⟩:=aliveW a q
    exact⟨o,T'.keep _ _ e,S5.nt a o q e⟩
   ·exact T'.live 0 h1' T'.st0 a m
  have S6:CompSt w N sc cl C D (wr++wr') h0 h1' zs (accL w (fun a=>N a∨compW sc cl C D (wr++wr') a) D):=by
   obtain⟨m,hm⟩:=S5.ns
   obtain⟨ys,no,hno,rb⟩:=S5.acc
   refine⟨⟨m,hm.keeps T'.keep⟩,fun u a ea=>let ⟨v,i⟩:=S5.cel u a ea;⟨v,i.keeps T'.keep⟩,S5.kp.trans T'.keep,fun a q=>let ⟨o,e,_⟩:=alive' a q;⟨o,e⟩,fun a o q e t=>?_,ys,no,T'.keep _ _ hno,?_⟩
   ·obtain⟨o',e',nt⟩:=alive' a q
    rw[e]at e';cases e';exact nt t
   ·exact RbL.keeps T'.keep (rb.mono fun _ _ q=>q.more fun a q=>q.elim (fun q=>.inl (.inl q)) fun q=>(split q).elim (fun q=>.inl (.inr q)) fun m=>.inr (T'.new a m))
  have ntW':NoT (compW sc cl C D wr') h1':=fun a o q e=>S6.nt a o (mono' q) e
  have st5:St (i + 1) h1':=T.turns.frame _ _ _ st₄ fun b _ o e=>T'.keep _ _ (kp' b o e)
  have aliveF:∀ b,b∈fp→∃ o,h₄.get? b=some o:=fun b m=>by
   by_cases q:compW sc cl C D wr b
   ·exact S₄.lw b q
   ·obtain⟨o,e⟩:=T.fpl b m;exact⟨o,kB4 b o q (k1b b o e)⟩
  have loop:=loop_list (s:=(sx s h1' tk')) (elt:=elt) (ifs:=[]) (zs0:=zs) (J:=fun h=>Look (compEnvC sc cl C env) h x vx) (c':=c.ofComp sc [x,y]) (ρ:=ρ ++ [.va dx]) (r:=r) hh (plain_two elt (.Name x px) i1 (.Name y py) i2 [] sc p) HC.1 HC.2 X' (fun h row vs S' j kW hrow hl look rr=>?_)
   (fun h h' f j=>f x vx (by simpa using hxy) j) (by rw[List.length_map];omega) T'.st0 S6 ((lx.keeps kp').keeps T'.keep) hk2
   (R:=fun res s'=>match res with
    | .ok _=>∃ m,m < l.length + 1 - i∧∃ i h tk zs,s'=(sx s h tk)∧i≤l.length∧m=l.length + 1 - i∧St i h∧CompSt w N sc cl C D wr h0 h zs (accL w (fun a=>N a∨compW sc cl C D wr a) D)∧zs.length≤1000 * i∧KpB (compW sc cl C D wr) hb h∧
   K.compK2 (r (c.ofComp sc [x,y]) false elt) (r (c.ofComp sc [x,y]) false i2) ρ (l.drop i) (fun ys=>k (.list (zs++ys)))=some z
    | .error e=>False) ?_
  ·exact compStart1 loop (wpAny_mono (T'.self 0 _ _ T'.st0 loop) (fun _ _ x=>x) noE)
  ·
   rw[List.mem_map]at hrow
   obtain⟨dy,_,rfl⟩:=hrow
   obtain⟨vy,rfl,ry⟩:=one_of rr
   have c1:=cond_set (turn_cond C00 ok F X'.fresh S') lsx j ((rx.more fun a q=>n1 X'.fresh q).keeps S'.kp)
   have ry':Rb w (fun a=>N a∨compW sc cl C D (wr++wr') a) false h vy dy:=Rb.but (fun a q=>.inr (mono' q)) kW ntW' ((ry.more fun a q=>q.elim (fun q=>.inl (.inl q)) fun q=>(split q).elim (fun q=>.inl (.inr q)) fun m=>.inr (T'.new a m)).keeps T'.keep)
   have c2:=cond_set c1 lsy (look 0 y vy rfl rfl) ry'
   simpa using c2
  ·intro h' tk2 zs' hk' hzl' ns cel kp0 kW acc nt j
   have kW':∀ a o,h0'.get? a=some o→¬ compW sc cl C D wr a→h'.get? a=some o:=fun a o e na=>kW a o (fun q=>(split (mono' q)).elim na (notw a o e)) (T'.keep _ _ e)
   have st6:St (i + 1) h':=T.turns.frame _ _ _ st5 fun b hb' o e=>by
    obtain⟨o',e'⟩:=aliveF b hb'
    have e1:=kp' _ _ e'
    have e2:=T'.keep _ _ e1
    rw[e]at e2;cases e2
    refine kW b o (fun q=>?_) e
    rcases q with q | q | q | ⟨u,eu,ea⟩
    ·subst q;exact X.fpD hb'
    ·subst q;exact X.fpC hb'
    ·exact notw b o e1 q
    ·exact X.fpc u b eu ea hb'
   have acc':accL w (fun a=>N a∨compW sc cl C D wr a) D h' (zs++zs'):=let ⟨ys,n,e,rb⟩:=acc;⟨ys,n,e,rb.mono fun _ _ q=>q.less fun a q=>q.elim .inl fun q=>.inr (mono q)⟩
   have alive2:∀ a,compW sc cl C D wr a→∃ o,h'.get? a=some o∧¬ (o.cls=.type "tuple"∧∃ vs n,o.data=.seq vs n):=fun a q=>by
    rcases q with rfl | rfl | q | ⟨u,eu,ea⟩
    ·exact(gather_list).lv h' _ acc'
    ·obtain⟨m,hm⟩:=ns;exact ns_live hm
    ·exact T.live _ _ st6 a q
    ·obtain⟨_,i⟩:=cel u a ea;exact cell_live i
   refine⟨l.length + 1 - (i + 1),by omega,i + 1,h',tk2,zs++zs',rfl,hlt,rfl,st6,⟨ns,cel,kp0,fun a q=>let ⟨o,e,_⟩:=alive2 a q;⟨o,e⟩,fun a o q e t=>?_,acc'⟩,?_,fun a o na e=>kW' a o (kp' _ _ (kB4 a o na e)) na,by simpa [List.append_assoc] using hk'⟩
   ·obtain⟨o',e',nt⟩:=alive2 a q
    rw[e]at e';cases e';exact nt t
   ·rw[List.length_append];rw[List.length_map]at hzl';omega
 ·have hin:i=l.length:=by omega
  subst hin
  rw[List.drop_of_length_le (Nat.le_refl _)]at hk
  have hk:k (.list (zs++[]))=some z:=hk
  rw[List.append_nil]at hk
  have wrD:D∉wr:=fun m=>X.fpD (T.turns.sub D m)
  have wrC:C∉wr:=fun m=>X.fpC (T.turns.sub C m)
  have st:St (l.map fun x=>[x]).length h:=by rw[List.length_map];exact st
  refine T.turns.done _ _ _ st fun h₁ tk₁ kw₁=>?_
  have k₁:KpB (fun a=>a∈wr) h h₁:=fun a o na e=>kw₁ a o na e
  have k₁W:KpB (compW sc cl C D wr) h h₁:=fun a o na e=>k₁ a o (fun q=>na (.inr (.inr (.inl q)))) e
  obtain⟨m,hm⟩:=S.ns
  have ns₁:h₁.Ns C m:=hm.at' fun o e=>k₁ C o wrC e
  exact hR h₁ tk₁ zs hk ⟨m,ns₁⟩ (kpb_kp fresh S.kp k₁W) ((gather_list).but (fun a=>a∈wr) h h₁ _ (fun a q=>⟨.inr (.inr (.inr (.inl q))),fun e=>wrD (e▸q)⟩) k₁ (fun a o q e=>S.nt a o (.inr (.inr (.inl q))) e) S.acc) (notT_of (ns_live ns₁))
theorem codeAny_turnsD{kx vx target iter:PySem.Expr}{ifs:List PySem.Expr}{sc:Scope}{pos:Pos}{it:Value}{D:Addr}{env:Env}{R:Result→Shared→Prop}(I:Nat→Shared→Prop)
  (turn:∀ n s,I n s→wpAny (model prog w.w) A (pyNext it) (fun r s₁=>match r with
   | none=>R (.ok .next) s₁
   | some v=>wpAny (model prog w.w) A (letOwnedTupleGo target it v) (fun _ s₂'=>wpAny (model prog w.w) A (assign target env v) (fun _ s₂=>
     wpAny (model prog w.w) A (forIn ifs true fun c r=>if r=true then do let ok ← PySem.isTrue c env (eval c env);pure (ForInStep.yield ok) else pure (ForInStep.yield r)) (fun ok s₃=>
      if ok=true then wpAny (model prog w.w) A (eval kx env) (fun kv s₄=>wpAny (model prog w.w) A (eval vx env) (fun vv s₅=>
       wpAny (model prog w.w) A (dictSet D kv vv) (fun _ s₆=>∃ m,m < n∧I m s₆) E s₅) E s₄) E s₃
      else ∃ m,m < n∧I m s₃) E s₂) E s₂') E s₁) E s)
  (n:Nat) (h:I n s):codeAny (model prog w.w) A (.compLoop (.DictComp kx vx [⟨target,iter,ifs,0⟩] sc pos) 0 it (.ref D) env) R s:=by
 refine codeAny_loop rfl I (fun n s hI=>?_) n h
 show wpAny _ A ((compTurn (.DictComp kx vx [⟨target,iter,ifs,0⟩] sc pos) 0 it (.ref D) env).onRaise (fun x=>do noteFrame x env;theTreesLotGoes x)) _ _ s
 refine wpAny_noted ?_
 rw[compTurn_dict]
 refine wpAny_bind (wpAny_standAt (wpAny_bind (wpAny_mono (turn n s hI) (fun r s₁ h₁=>?_) noE)))
 cases r with
 | none=>exact wpAny_pure h₁
 | some v=>
  refine wpAny_bind (wpAny_mono h₁ (fun _ s₂' h₂'=>?_) noE)
  refine wpAny_bind (wpAny_mono h₂' (fun _ s₂ h₂=>wpAny_bind (wpAny_mono h₂ (fun ok s₃ h₃=>?_) noE)) noE)
  cases ok with
  | false=>exact wpAny_pure ⟨rfl,h₃⟩
  | true=>
   refine wpAny_bind (wpAny_bind (wpAny_mono h₃ (fun kv s₄ h₄=>wpAny_bind (wpAny_holding (wpAny_mono h₄ (fun vv s₅ h₅=>wpAny_bind (wpAny_standAt (wpAny_holding (wpAny_mono h₅ (fun _ s₆ h₆=>wpAny_pure ⟨rfl,h₆⟩) noE)))) noE))) noE))
noncomputable def accD(w:Pk)(N1:Addr→Prop)(D:Addr)(ps:List (V × V))(h:Heap)(_:List V):Prop:=∃ es n ks ds,ps=ks.zip ds∧h.get? D=some (dct (List.toArray es) n)∧KeysOk w h es ks∧ks.length=ds.length∧RbL w N1 false h (es.map (·.val)) ds
theorem gather_dict{N1:Addr→Prop}{D:Addr}{ps:List (V × V)}:Gather w N1 D (accD w N1 D ps) where
 but:=fun W h h' zs hW k nt ⟨es,n,ks,ds,e,g,ko,hl,r⟩=>⟨es,n,ks,ds,e,k D _ (fun q=>(hW D q).2 rfl) g,ko.but k nt,hl,RbL.but (fun a q=>(hW a q).1) k nt r⟩
 lv:=fun h zs ⟨es,n,ks,ds,e,g,_⟩=>⟨_,g,fun q=>absurd (Value.type.inj q.1) (by decide)⟩
theorem dcomp_ok(HS:Snd w A O r)(hc:CallOk w A O c.fns c.lits c.fresh)(hh:A.handled=none)(hu:A.units + 80 < cLine){kx vx i1:PySem.Expr}{ifs:List PySem.Expr}{sc:Scope}{x:Str}{px p:Pos}{b:Bool}(ok:okScope c sc [x]=true)(hs1:isSet i1=false):
  DOk w A c b (.DictComp kx vx [⟨.Name x px,i1,ifs,0⟩] sc p) (K.cDcomp (r (c.ofComp sc [x]) false kx) (r (c.ofComp sc [x]) false vx) (r c false i1) (K.tD (ifs.map (r (c.ofComp sc [x]) false)))):=by
 intro env ρ N s z k fr Q C0 h _ out
 have HC:=HS (c.ofComp sc [x]) hc
 rw[arm_eval_DictComp]
 refine comp_startG (e:=.DictComp kx vx [⟨.Name x px,i1,ifs,0⟩] sc p) (gs:=[]) (use:=none) (obj:={ cls:=.type "dict",data:=.dict #[] })
  (FF:=fun h' D C=>∃ ps,k (.dict ps)=some z∧accD w (fun a=>N a∨a=C∨a=D) D ps h' []) (rowsP:=fun rows=>∃ l,rows=l.map (fun x=>[x])∧l.length≤1000000∧
   K.dcompK (r (c.ofComp sc [x]) false kx) (r (c.ofComp sc [x]) false vx) (K.tD (ifs.map (r (c.ofComp sc [x]) false))) ρ l [] (fun r=>k (.dict r))=some z) (target:=.Name x px) (ts':=[x]) hh C0 ok hs1 rfl rfl rfl
  (fun s Q E q=>?_) (fun it acc env' R s h h'=>codeAny_compStart_dict h h')
  (fun Q' f=>src_list hh ((HS c hc).1 false i1) C0 h (G:=fun l=>l.length≤1000000∧K.dcompK (r (c.ofComp sc [x]) false kx) (r (c.ofComp sc [x]) false vx) (K.tD (ifs.map (r (c.ofComp sc [x]) false))) ρ l [] (fun r=>k (.dict r))=some z) (fun u hu=>by
   refine bc fun gG=>?_
   obtain⟨l,rfl,hu⟩:=K.vList_some hu
   obtain⟨h1,h2⟩:=K.okL_some hu
   refine gG ?_
   exact⟨l,rfl,h1,h2⟩) fun l u v I h0 h1 tk fp wr P Md St g hl rv kp T _=>f _ ⟨l,rfl,g.1,g.2⟩ I h0 h1 tk fp wr P Md St kp T)
  (fun D C h' tk' kp zD zC hDC ⟨m,ns⟩ ⟨ps,hk,acc⟩=>⟨m,ns,fun h'' sb=>?_⟩) ?_
 ·exact wpAny_newObj_type q
 ·have kb:KpB (fun a=>a=C) h' h'':=fun a o na e=>sb.extBut a o na e
  have kp2:Kp s.heap h'':=kpb_kp (fun x q=>by rw[q];exact zC) kp kb
  have nN:¬ N D:=fun q=>by obtain⟨o,e⟩:=C0.live _ q;rw[zD]at e;cases e
  refine bc fun gG=>?_
  obtain⟨es,n,ks,ds,rfl,g,ko,hl,rl⟩:=(gather_dict).but (fun a=>a=C) h' h'' [] (fun a q=>⟨.inr (.inl q),fun e=>hDC (e.symm.trans q)⟩) kb (notT_of (ns_live ns)) acc
  refine gG ?_
  have rl':RbL w N false h'' (es.map (·.val)) ds:=rl.mono fun _ _ q=>q.less fun a na=>.inl na
  have rb:Rb w N b h'' (.ref D) (.dict (ks.zip ds)):=by
   obtain⟨as,r,q⟩:=rdL_of rl'
   refine⟨D::as,.dict g ko hl r,fun c m n=>?_⟩
   rcases List.mem_cons.mp m with rfl | m
   ·exact absurd n nN
   ·exact(q c m n).elim
  exact out _ hk (.ref D) h'' tk' kp2 rb fun _ _=>⟨_,rfl,zD⟩
 rintro rows I h0 h1 tk fp wr P Md St cl C D hb ⟨l,rfl,hlen,hk⟩ kp T F hD hDC hDc k1b hDg R hR
 obtain⟨X,S,st⟩:=comp_base (ts':=[x]) (acc:=accD w (fun a=>N a∨compW sc cl C D wr a) D []) ok (fun u m=>m) (by simp) T F hD hDC k1b hDg (fun q=>absurd (Value.type.inj q.1) (by decide)) (fun u q=>nomatch q)
  ⟨[],0,[],[],rfl,hDg,KeysOk.kI (is:=[]) .nil List.nodup_nil,rfl,.nil⟩
 have fresh:=X.fresh
 have C00:=C0.keeps kp
 have fpD:=X.fpD
 have wrD:D∉wr:=fun m=>fpD (T.turns.sub D m)
 have wrC:C∉wr:=fun m=>X.fpC (T.turns.sub C m)
 have dN:∀ a,a=D→N a∨compW sc cl C D wr a:=fun a q=>.inr (.inl q)
 refine codeAny_turnsD
  (fun n s'=>∃ i h tk ps,s'=(sx s h tk)∧i≤l.length∧n=l.length + 1 - i∧St i h∧CompSt w N sc cl C D wr h0 h [] (accD w (fun a=>N a∨compW sc cl C D wr a) D ps)∧
   K.dcompK (r (c.ofComp sc [x]) false kx) (r (c.ofComp sc [x]) false vx) (K.tD (ifs.map (r (c.ofComp sc [x]) false))) ρ (l.drop i) ps (fun r=>k (.dict r))=some z) ?_ (l.length + 1)
  ⟨0,hb,tk,[],rfl,Nat.zero_le _,rfl,st,S,hk⟩
 rintro n s' ⟨i,h,tk,ps,rfl,hi,rfl,st,S,hk⟩
 by_cases hlt:i < l.length
 ·refine comp_turn (s:=(sx s h tk)) hh X gather_dict (by simpa using hlt) st S (fun v s₁ x=>x) fun h₄ tk₄ row vs hrow st₄ S₄ k₄ rr hl look rest=>?_
  obtain⟨dx,hdx⟩:=getL hlt
  rw[List.getElem?_map,hdx]at hrow
  cases hrow
  have cnd:=bind_cond C00 ok F fresh S₄ hl look rr
  rw[List.drop_eq_getElem_cons hlt,show l[i]=dx from by rw[List.getElem?_eq_getElem hlt]at hdx;exact Option.some.inj hdx]at hk
  replace hk:K.bindK ρ [dx] (fun ρ'=>K.tD (ifs.map (r (c.ofComp sc [x]) false)) ρ' (r (c.ofComp sc [x]) false kx ρ' fun y=>r (c.ofComp sc [x]) false vx ρ' fun u=>K.okL ps (K.putD y u ps fun ps'=>
    K.dcompK (r (c.ofComp sc [x]) false kx) (r (c.ofComp sc [x]) false vx) (K.tD (ifs.map (r (c.ofComp sc [x]) false))) ρ (l.drop (i + 1)) ps' (fun r=>k (.dict r))))
   (K.dcompK (r (c.ofComp sc [x]) false kx) (r (c.ofComp sc [x]) false vx) (K.tD (ifs.map (r (c.ofComp sc [x]) false))) ρ (l.drop (i + 1)) ps (fun r=>k (.dict r))))=some z:=hk
  rw[K.bindK_eq]at hk
  refine tests_ok (s:=(sx s h₄ tk₄)) HC.2 ifs cnd hk fun t h₅ tk₅ ht k₅=>?_
  have S₅:=S₄.keeps (gather_dict) k₅
  have st₅:St (i + 1) h₅:=T.turns.frame _ _ _ st₄ fun b _ o e=>k₅ b o e
  cases t with
  | false=>
   simp only[Bool.false_eq_true,if_false]at ht ⊢
   exact⟨l.length + 1 - (i + 1),by omega,i + 1,h₅,tk₅,ps,rfl,hlt,rfl,st₅,S₅,ht⟩
  | true=>
   simp only[if_true]at ht ⊢
   refine(HC.1 false kx).go (s:=(sx s h₅ tk₅)) (cnd.keeps k₅) ht fun y yv h₆ tk₆ hy k₆ ry=>?_
   refine(HC.1 false vx).go (s:=(sx s h₆ tk₆)) ((cnd.keeps k₅).keeps k₆) hy fun u uv h₇ tk₇ hv k₇ ru=>?_
   refine bc fun gG=>?_
   obtain⟨hsz,hv⟩:=K.okL_some hv
   obtain⟨ps',hput,hk'⟩:=K.putD_some hv
   have S₇:=(S₅.keeps (gather_dict) k₆).keeps (gather_dict) k₇
   have st₇:St (i + 1) h₇:=T.turns.frame _ _ _ st₅ fun b _ o e=>k₇ b o (k₆ b o e)
   obtain⟨es,no,ks,ds,rfl,hg,ko,hkl,rl⟩:=S₇.acc
   refine gG ?_
   rw[List.length_zip,← hkl,Nat.min_self]at hsz
   refine op_dictSet (s:=(sx s h₇ tk₇)) (N:=fun a=>N a∨compW sc cl C D wr a) hu (dN D rfl) hg ko hkl rl hput hsz (ry.keeps k₇) ru fun h₈ tk₈ pk=>?_
   have k₈:KpB (fun a=>a=D) h₇ h₈:=pk.kpb
   have k₈W:KpB (compW sc cl C D wr) h₇ h₈:=fun a o na e=>k₈ a o (fun q=>na (.inl q)) e
   refine bc fun gG=>?_
   obtain⟨a',es',n',ks',ds',e1,rfl,hg',ko',hkl',rl',_⟩:∃ a' es' n' ks' ds',Value.ref D=.ref a'∧ps'=ks'.zip ds'∧h₈.get? a'=some (dct (List.toArray es') n')∧KeysOk w h₈ es' ks'∧ks'.length=ds'.length∧RbL w (fun a=>N a∨compW sc cl C D wr a) false h₈ (es'.map (·.val)) ds'∧(true=false→¬ (N a'∨compW sc cl C D wr a')):=rb_dict_inv pk.rb
   refine gG ?_
   cases e1
   obtain⟨m,hm⟩:=S₇.ns
   have alive:∀ a,compW sc cl C D wr a→∃ o,h₈.get? a=some o∧¬ (o.cls=.type "tuple"∧∃ vs n,o.data=.seq vs n):=fun a q=>by
    by_cases qd:a=D
    ·subst qd;exact⟨_,hg',fun q=>absurd (Value.type.inj q.1) (by decide)⟩
    ·obtain⟨o,e⟩:=S₇.lw a q
     exact⟨o,k₈ a o qd e,S₇.nt a o q e⟩
   refine⟨l.length + 1 - (i + 1),by omega,i + 1,h₈,tk₈,ks'.zip ds',rfl,hlt,rfl,T.turns.frame _ _ _ st₇ fun b hb o e=>k₈ b o (fun q=>fpD (q▸hb)) e,
    ⟨⟨m,hm.at' fun o e=>k₈ C o (Ne.symm X.hDC) e⟩,fun x a ea=>?_,kpb_kp fresh S₇.kp k₈W,fun a q=>let ⟨o,e,_⟩:=alive a q;⟨o,e⟩,fun a o q e t=>?_,es',n',ks',ds',rfl,hg',ko',hkl',rl'⟩,hk'⟩
   ·refine bc fun gG=>?_
    obtain⟨u,o,ho,hd⟩:=S₇.cel x a ea
    refine gG ?_
    exact⟨u,o,k₈ a o (X.clD x a ea) ho,hd⟩
   ·obtain⟨o',e',nt⟩:=alive a q
    rw[e]at e';cases e';exact nt t
 ·have hin:i=l.length:=by omega
  subst hin
  rw[List.drop_of_length_le (Nat.le_refl _)]at hk
  have hk:k (.dict ps)=some z:=hk
  have st:St (l.map fun x=>[x]).length h:=by rw[List.length_map];exact st
  refine T.turns.done _ _ _ st fun h₁ tk₁ kw₁=>?_
  have k₁:KpB (fun a=>a∈wr) h h₁:=fun a o na e=>kw₁ a o na e
  have k₁W:KpB (compW sc cl C D wr) h h₁:=fun a o na e=>k₁ a o (fun q=>na (.inr (.inr (.inl q)))) e
  refine bc fun gG=>?_
  obtain⟨m,hm⟩:=S.ns
  have ns₁:h₁.Ns C m:=hm.at' fun o e=>k₁ C o wrC e
  obtain⟨es,n,ks,ds,e,g,ko,hl,rl⟩:=(gather_dict).but (fun a=>a∈wr) h h₁ _ (fun a q=>⟨.inr (.inr (.inr (.inl q))),fun (e:a=D)=>wrD (e▸q)⟩) k₁ (fun a o q e=>S.nt a o (.inr (.inr (.inl q))) e) S.acc
  refine gG ?_
  exact hR h₁ tk₁ ⟨m,ns₁⟩ (kpb_kp fresh S.kp k₁W) ⟨ps,hk,es,n,ks,ds,e,g,ko,hl,rl.mono fun _ _ q=>q.less fun a q=>q.elim .inl fun q=>.inr (q.elim (fun q=>.inr (.inl q)) fun q=>.inl q)⟩
end Mine
end
noncomputable section
open PySem PySem.W PyProof.Rows
namespace Mine
open K (R D DL X Orc Rec TgL)
variable{w:Pk}{A:Around}{O:Orc}{r:Rec}{c:Cx}
theorem comp_stuck{elt:PySem.Expr}{gens:List Comprehension}{sc:Scope}{p:Pos}{d:D}(h:∀ ρ k,d ρ k=none):CompOk w A c elt gens sc p d:=by
 intro env ρ N s z k use Q C0 g
 rw[h]at g;cases g
theorem dok_stuck{e:PySem.Expr}{b:Bool}{d:D}(h:∀ ρ k,d ρ k=none):DOk w A c b e d:=by
 intro env ρ N s z k fr Q C0 g
 rw[h]at g;cases g
theorem comp_if{elt:PySem.Expr}{gens:List Comprehension}{sc:Scope}{p:Pos}{d:D}{q:Bool}(h:q=true→CompOk w A c elt gens sc p d):CompOk w A c elt gens sc p (if q then d else K.cStuck):=by
 cases q with
 | true=>exact h rfl
 | false=>exact comp_stuck fun _ _=>rfl
theorem dok_if{e:PySem.Expr}{b:Bool}{d:D}{q:Bool}(h:q=true→DOk w A c b e d):DOk w A c b e (if q then d else K.cStuck):=by
 cases q with
 | true=>exact h rfl
 | false=>exact dok_stuck fun _ _=>rfl
theorem comp_any(HS:Snd w A O r)(hc:CallOk w A O c.fns c.lits c.fresh)(hh:A.handled=none)(elt:PySem.Expr)(gens:List Comprehension)(sc:Scope)(p:Pos):CompOk w A c elt gens sc p (K.compD r c elt sc gens):=by
 match gens with
 | []=>exact comp_stuck fun _ _=>rfl
 | [g]=>
  show CompOk w A c elt [g] sc p (match tgNames g.target with | some ts=>K.compD1 r c elt sc ts g | none=>K.cStuck)
  cases ht:tgNames g.target with
  | none=>exact comp_stuck fun _ _=>rfl
  | some ts=>exact comp1_ok HS hc hh ht
 | [g,h]=>
  obtain⟨t1,i1,f1,a1⟩:=g
  obtain⟨t2,i2,f2,a2⟩:=h
  cases t1 with
  | Name x px=>
   cases t2 with
   | Name y py=>
    refine comp_if fun q=>?_
    simp only[Bool.and_eq_true,Bool.not_eq_true',beq_eq_false_iff_ne]at q
    obtain⟨⟨⟨⟨⟨⟨⟨⟨q1,q2⟩,q3⟩,q4⟩,q5⟩,q6⟩,q7⟩,q8⟩,q9⟩:=q
    have e1:a1=0:=is0 q2
    have e2:a2=0:=is0 q3
    have e3:f1=[]:=by simpa using q4
    have e4:f2=[]:=by simpa using q5
    subst e1 e2 e3 e4
    exact comp2_ok HS hc hh q1 q7 q8 q9
   | _=>exact comp_stuck fun _ _=>rfl
  | _=>exact comp_stuck fun _ _=>rfl
 | _::_::_::_=>exact comp_stuck fun _ _=>rfl
theorem dcomp_any(HS:Snd w A O r)(hc:CallOk w A O c.fns c.lits c.fresh)(hh:A.handled=none)(hu:A.units + 80 < cLine)(kx vx:PySem.Expr)(gens:List Comprehension)(sc:Scope)(p:Pos)(b:Bool):DOk w A c b (.DictComp kx vx gens sc p) (K.dcompD r c kx vx sc gens):=by
 match gens with
 | []=>exact dok_stuck fun _ _=>rfl
 | [g]=>
  obtain⟨t1,i1,f1,a1⟩:=g
  cases t1 with
  | Name x px=>
   refine dok_if fun q=>?_
   simp only[Bool.and_eq_true,Bool.not_eq_true']at q
   obtain⟨⟨⟨q1,q2⟩,q3⟩,q4⟩:=q
   have e1:a1=0:=is0 q2
   subst e1
   exact dcomp_ok HS hc hh hu q1 q4
  | _=>exact dok_stuck fun _ _=>rfl
 | _::_::_=>exact dok_stuck fun _ _=>rfl
theorem cE_snd(hh:A.handled=none)(hu:A.units + 80 < cLine):∀ n,Snd w A O (K.cE O n)
 | 0=>fun c hc=>⟨fun b e=>dok_stuck fun _ _=>rfl,fun e env ρ N s z k Q C0 g=>by cases g⟩
 | n + 1=>fun c hc=>by
  have HS:=cE_snd hh hu n
  have HD:=step_d HS hc hh hu (fun elt gens sc p b=>(comp_any HS hc hh elt gens sc p).d) (fun k v gens sc p b=>dcomp_any HS hc hh hu k v gens sc p b)
  exact⟨HD,step_t HS hc hu (HD false)⟩
end Mine
end
noncomputable section
open PySem PySem.W PyProof.Rows
namespace Mine
variable{w:Pk}{A:Around}{s:Shared}{N:Addr→Prop}{h h':Heap}{a:Addr}
structure Mut(w:Pk)(N:Addr→Prop)(a:Addr)(h:Heap)(d:V)(h':Heap):Prop where
 sb:Heap.SameBut a h h'
 rb:Rb w N true h' (.ref a) d
theorem Mut.kpb{d:V}(p:Mut w N a h d h'):KpB (fun b=>b=a) h h':=fun b o nb e=>p.sb.extBut b o nb e
theorem lst_notT{ys:List Value}{n:Nat}(e:h.get? a=some (lst ys.toArray n)):NoT (fun b=>b=a) h:=notT_of ⟨_,e,fun q=>absurd (Value.type.inj q.1) (by decide)⟩
theorem mapSeq_set(its:Array Value)(n i:Nat)(x:Value):Obj.mapSeq (·.setIfInBounds i x) (lst its n)=lst (its.setIfInBounds i x) n:=by
 simp [Obj.mapSeq,lst]
theorem All2.setAt{α β:Type}{R:α→β→Prop}{a:α}{b:β}(q:R a b):∀ {as:List α} {bs:List β},All2 R as bs→∀ i,All2 R (as.set i a) (bs.set i b)
 | _,_,.nil,i=>by simp only[List.set_nil];exact .nil
 | _,_,.cons x y,0=>.cons q y
 | _,_,.cons x y,i + 1=>.cons x (All2.setAt q y i)
theorem mut_list{ys:List Value}{n:Nat}(hN:N a)(sb:Heap.SameBut a h h')(e:h.get? a=some (lst ys.toArray n)){ys':List Value}{n':Nat}{xs':List V}(e':h'.get? a=some (lst ys'.toArray n'))(r:RbL w N false h ys' xs'):Mut w N a h (.list xs') h':=
 ⟨sb,Rb.lst true (fun q=>nomatch q) e' (RbL.but (fun b q=>q▸hN) (fun b o nb e=>sb.extBut b o nb e) (lst_notT e) r)⟩
theorem op_append{v:Value}{d:V}{l:List V}{Q:Value→Shared→Prop}(hN:N a)(ro:Rb w N true s.heap (.ref a) (.list l))(rv:Rb w N false s.heap v d)(hsz:l.length≤1000000)
  (q:∀ h',Mut w N a s.heap (.list (l++[d])) h'→Q .none { s with heap:=h' }):wpAny (model prog w.w) A (call (.builtin "list.append") [.ref a,v]) Q E s:=by
 obtain⟨a',ys,n,e,ha,r,_⟩:=rb_lst_inv ro
 cases e
 refine wpAny_list_append_plain ⟨n,ha⟩ (fun h' ⟨n',e'⟩ sb=>q h' (mut_list hN sb ha (ys':=ys++[v]) (n':=n') (by simpa using e') (r.append (.cons rv .nil)))) (by
  rw[List.size_toArray,All2.length r];exact Nat.le_trans (by omega) (show 1000000≤sizeLine by decide))
theorem op_setItemL{v:Value}{d:V}{l:List V}{k:Int}{t:Tok}{Q:Unit→Shared→Prop}(h0:0≤k)(hN:N a)(ro:Rb w N true s.heap (.ref a) (.list l))(rv:Rb w N false s.heap v d)(hi:k.toNat < l.length)(hs:l.length≤1000000)
  (q:∀ h',Mut w N a s.heap (.list (l.set k.toNat d)) h'→Q () { s with heap:=h' }):wpAny (model prog w.w) A (setItem (.ref a) (.int k t) v) Q E s:=by
 obtain⟨a',ys,n,e,ho,r,_⟩:=rb_lst_inv ro
 cases e
 have hl:s.heap.IsList a ys.toArray:=⟨_,ho,rfl,n,rfl⟩
 obtain⟨_,_,_,ne,_⟩:=id hl
 have hfit:k < 2 ^ 63:=by omega
 unfold setItem
 try with_reducible refine wpAny_holding ?_
 first | refine wpAny_bind (wpAny_pure ?_) | skip
 refine wpAny_bind (wpAny_sequenceKey hl.typeIs (by decide) ?_)
 refine wpAny_bind (wpAny_callSpecial?_slot (name:=Str.ofString "__setitem__") hl.typeIs slot_list_setitem
  (wpAny_call_entry slot_list_setitem hl.typeIs entry_list_setitem ?_ (args_list_setitem _ _ _)))
 show wpAny _ _ (Builtin.List.listSubscript? (.int k t) >>= _) _ _ s
 refine wpAny_bind (wpAny_listSubscript_int (fitsIndex_of h0 hfit) ?_)
 clear hfit
 obtain⟨i,rfl⟩:=Int.eq_ofNat_of_zero_le h0
 have hj:i < ys.toArray.size:=by rw[List.size_toArray,All2.length r];simpa using hi
 have hx':ys.toArray[i]?=some ys.toArray[i]:=Array.getElem?_eq_getElem hj
 show wpAny _ _ ((seqItemAt a i >>= fun r=>pure (r.map (i,·))) >>= _) _ _ s
 refine wpAny_bind (wpAny_bind (wpAny_seqItemAt ho rfl (wpAny_pure ?_)))
 rw[hx']
 show wpAny _ _ (setSeqItemAt a i v >>= _) _ _ s
 have hget:(s.heap.update a (Obj.mapSeq (·.setIfInBounds i v))).get? a=some (lst (ys.set i v).toArray n):=by
  rw[Heap.get?_update_self _ ho (by rw[mapSeq_set];rfl),mapSeq_set]
  simp
 have fin:=q _ (mut_list hN (Heap.SameBut.update ..) ho hget (All2.setAt rv r i))
 refine wpAny_bind (wpAny_setSeqItemAt ho rfl ?_)
 first
  | exact wpAny_bind (wpAny_pure (wpAny_pure ⟨.none,rfl,wpAny_pure fin⟩))
  | exact wpAny_pure ⟨.none,rfl,wpAny_pure fin⟩
theorem All2.unapp{α β:Type}{R:α→β→Prop}:∀ {as cs:List α} {bs ds:List β},as.length=bs.length→All2 R (as++cs) (bs++ds)→All2 R as bs∧All2 R cs ds
 | [],_,[],_,_,q=>⟨.nil,q⟩
 | [],_,_::_,_,l,_=>by cases l
 | _::_,_,[],_,l,_=>by cases l
 | a::as,cs,b::bs,ds,l,q=>by
  cases q with
  | cons x y=>obtain⟨u,v⟩:=All2.unapp (by simpa using l) y;exact⟨.cons x u,v⟩
theorem op_extend{v:Value}{l l2:List V}{Q:Value→Shared→Prop}(hN:N a)(ro:Rb w N true s.heap (.ref a) (.list l))(rv:Rb w N false s.heap v (.list l2))(hsz:l.length + l2.length≤1000000)
  (q:∀ h',Mut w N a s.heap (.list (l++l2)) h'→Q .none { s with heap:=h' }):wpAny (model prog w.w) A (call (.builtin "list.extend") [.ref a,v]) Q E s:=by
 obtain⟨a',ys,n,e,ha,r,_⟩:=rb_lst_inv ro
 cases e
 obtain⟨b,ys2,n2,rfl,hb,r2,_⟩:=rb_lst_inv rv
 have z:ys.toArray.size + ys2.toArray.size≤sizeLine:=by
  rw[List.size_toArray,List.size_toArray,All2.length r,All2.length r2];exact Nat.le_trans hsz (show 1000000≤sizeLine by decide)
 refine call_meets PySem.F.slot_list_extend ⟨_,ha,rfl⟩ PySem.F.entry_list_extend (PySem.F.args_list_extend_2 _ _) (AutoSeq1.list_extend_list_list_0 a ys.toArray n b ys2.toArray n2 (extend_door z) (Nat.le_trans (Nat.le_add_right _ _) z)) ⟨ha,hb,?_⟩
 refine q _ (mut_list hN (Heap.SameBut.update ..) ha (ys':=ys++ys2) (n':=if (ys.toArray++ys2.toArray).size==ys.toArray.size then n else n + 1) ?_ (r.append r2))
 rw[Heap.get?_update_self _ ha (by rw[mapSeq_app];rfl),mapSeq_app]
 simp only[List.append_toArray]
theorem mapSeq_erase(its:Array Value)(n k:Nat):∃ n',Obj.mapSeq (fun xs=>xs.eraseIdxIfInBounds k) (lst its n)=lst (its.eraseIdxIfInBounds k) n':=⟨_,rfl⟩
theorem op_pop{d:V}{l r:List V}{Q:Value→Shared→Prop}(hN:N a)(ro:Rb w N true s.heap (.ref a) (.list (r++[d])))(hsz:r.length≤1000000)
  (q:∀ h' v,Mut w N a s.heap (.list r) h'→Rb w N false h' v d→Q v { s with heap:=h' }):wpAny (model prog w.w) A (call (.builtin "list.pop") [.ref a]) Q E s:=by
 obtain⟨a',ys,n,e,ha,rr,_⟩:=rb_lst_inv ro
 cases e
 obtain⟨y1,y2,rfl,r1,r2⟩:∃ y1 v,ys=y1++[v]∧RbL w N false s.heap y1 r∧Rb w N false s.heap v d:=by
  have hl:=All2.length rr
  rcases List.eq_nil_or_concat ys with rfl | ⟨y1,v,rfl⟩
  ·simp at hl
  ·rw[List.concat_eq_append]at rr hl ⊢
   have:y1.length=r.length:=by simpa using hl
   obtain⟨r1,r2⟩:=All2.unapp this rr
   exact⟨y1,v,rfl,r1,by cases r2 with | cons x _=>exact x⟩
 have hs:(y1++[y2]).toArray.size=y1.length + 1:=by simp
 have hlen:y1.length≤1000000:=by rw[All2.length r1];exact hsz
 have hz:(y1++[y2]).toArray.size≤sizeLine:=by rw[hs];exact Nat.le_trans (by omega) (show 1000001≤sizeLine by decide)
 refine call_meets PySem.F.slot_list_pop ⟨_,ha,rfl⟩ PySem.F.entry_list_pop (PySem.F.args_list_pop_1 _) (PySem.MeetsSeq.list_pop_last a (y1++[y2]).toArray n y2 (by rw[hs];simp) hz) ⟨ha,?_⟩
 obtain⟨n',en⟩:=mapSeq_erase (y1++[y2]).toArray n ((y1++[y2]).toArray.size - 1)
 have M:Mut w N a s.heap (.list r) (s.heap.update a (Obj.mapSeq fun xs=>xs.eraseIdxIfInBounds ((y1++[y2]).toArray.size - 1))):=by
  refine mut_list hN (Heap.SameBut.update ..) ha (ys':=y1) (n':=n') ?_ r1
  rw[Heap.get?_update_self _ ha (by rw[en];rfl),en,hs]
  have:(y1++[y2]).toArray.eraseIdxIfInBounds (y1.length + 1 - 1)=y1.toArray:=by
   apply Array.toList_inj.mp
   rw[Array.toList_eraseIdxIfInBounds]
   simp [List.eraseIdx_append_of_length_le]
  rw[this]
 exact q _ _ M (Rb.but (fun b q=>q▸hN) M.kpb (lst_notT ha) r2)
end Mine
end
noncomputable section
open PySem PySem.W PyProof.Rows
namespace Mine
variable{w:Pk}{A:Around}{s:Shared}{N N':Addr→Prop}{h h':Heap}{c:Cx}{env:Env}{ρ:Rho}
theorem Rb.butT{t:Addr}(hN:N t)(k:KpB (fun a=>a=t) h h')(nt:NoT (fun a=>a=t) h){b:Bool}{v:Value}{d:V}(x:Rb w N b h v d)(ne:v ≠ .ref t):Rb w N b h' v d:=
 let ⟨as,r,q⟩:=x
 ⟨as,r.but k nt fun a m e=>by subst e;exact ne (q a m hN).2,q⟩
structure FI(w:Pk)(c:Cx)(env:Env)(ln:Option Addr)(hB hC:Heap)(N0:Addr→Prop)(o:Nat→Addr)(N:Addr→Prop)(ρ:Rho)(h:Heap):Prop where
 e0:Env0 env c
 inv:InvE w c env ρ N h
 live:Live N h
 len:ρ.length=c.ls.length
 cel:∀ x a,env.cells.lookup x=some a→∃ v,h.IsCell a v
 dis:∀ x y a,env.cells.lookup x=some a→env.cells.lookup y=some a→x=y
 gB:GI w c.fns c.lits N0 hB
 kp:Kp hB h
 kBC:Kp hB hC
 kc:KpB (fun a=>ln=some a) hC h
 lnB:∀ L,ln=some L→hB.get? L=none
 n0:∀ a,N0 a→N a
 l0:Live N0 hB
 i:∀ a,N a→N0 a∨hB.get? a=none
 ns:∃ m,h.Ns env.locals m
 loc:N env.locals∧hC.get? env.locals=none
 cells:∀ x a,env.cells.lookup x=some a→N a∧hC.get? a=none∧a≠env.locals
 low:∀ x i,c.slot x=some i→env.kindOf x=some .local∨env.kindOf x=some .cell
 own:∀ x i d,c.slot x=some i→ρ[i]?=some (.ow d)→Look env h x (.ref (o i))∧Rb w N true h (.ref (o i)) d
 ownN:∀ i d,ρ[i]?=some (.ow d)→N (o i)∧(hC.get? (o i)=none∨ln=some (o i))∧o i≠env.locals∧(∀ x a,env.cells.lookup x=some a→o i≠a)∧isCont d=true∧∃ x,c.slot x=some i
 inj:∀ i j d d',ρ[i]?=some (.ow d)→ρ[j]?=some (.ow d')→o i=o j→i=j
 lent:∀ L,ln=some L→o 0=L∧∃ d,ρ[0]?=some (.ow d)
variable{ln:Option Addr}{hB hC:Heap}{N0:Addr→Prop}{o:Nat→Addr}
theorem dead{hB hC:Heap}(k:Kp hB hC){a:Addr}(e:hC.get? a=none):hB.get? a=none:=by
 cases z:hB.get? a with
 | none=>rfl
 | some ob=>rw[k _ _ z]at e;cases e
theorem FI.gi(F:FI w c env ln hB hC N0 o N ρ h):GI w c.fns c.lits N h:=(F.gB.more F.i).keeps F.kp
theorem FI.cd(F:FI w c env ln hB hC N0 o N ρ h):Cond w c env ρ N h:=⟨F.e0,F.inv,F.gi,F.live,F.len,F.cel,F.dis⟩
theorem FI.ownB(F:FI w c env ln hB hC N0 o N ρ h){i:Nat}{d:V}(e:ρ[i]?=some (.ow d)):hB.get? (o i)=none:=
 (F.ownN i d e).2.1.elim (dead F.kBC) (F.lnB _)
theorem FI.keeps(F:FI w c env ln hB hC N0 o N ρ h)(k:Kp h h'):FI w c env ln hB hC N0 o N ρ h':=
 { F with
  inv:=F.inv.keeps k
  live:=F.live.keeps k
  cel:=fun x a e=>let ⟨v,i⟩:=F.cel x a e;⟨v,i.keeps k⟩
  kp:=F.kp.trans k
  kc:=fun a ob na e=>k _ _ (F.kc a ob na e)
  ns:=let ⟨m,n⟩:=F.ns;⟨m,n.keeps k⟩
  own:=fun x i d a b=>let ⟨l,r⟩:=F.own x i d a b;⟨l.keeps k,r.keeps k⟩ }
theorem FI.grow(F:FI w c env ln hB hC N0 o N ρ h)(sub:∀ a,N a→N' a)(i:∀ a,N' a→N a∨h.get? a=none)(k:Kp h h')(lv:Live N' h'):FI w c env ln hB hC N0 o N' ρ h':=by
 have iB:∀ a,N' a→N0 a∨hB.get? a=none:=fun a q=>(i a q).elim (F.i a) fun e=>.inr (dead F.kp e)
 exact
 { F with
  inv:=fun x j sl a b=>((F.inv x j sl a b).more i).keeps k
  live:=lv
  cel:=fun x a e=>let ⟨v,i⟩:=F.cel x a e;⟨v,i.keeps k⟩
  kp:=F.kp.trans k
  kc:=fun a ob na e=>k _ _ (F.kc a ob na e)
  n0:=fun a q=>sub _ (F.n0 a q)
  i:=iB
  ns:=let ⟨m,n⟩:=F.ns;⟨m,n.keeps k⟩
  loc:=⟨sub _ F.loc.1,F.loc.2⟩
  cells:=fun x a e=>let ⟨q,r⟩:=F.cells x a e;⟨sub _ q,r⟩
  own:=fun x j d a b=>let ⟨l,r⟩:=F.own x j d a b;⟨l.keeps k,(r.more i).keeps k⟩
  ownN:=fun j d b=>let ⟨q,r⟩:=F.ownN j d b;⟨sub _ q,r⟩ }
theorem get_set{i j:Nat}{a sl:Sl}(e:(ρ.set i a)[j]?=some sl):(j=i∧sl=a∧i < ρ.length)∨(j≠i∧ρ[j]?=some sl):=by
 by_cases q:j=i
 ·subst q
  have hlt:j < ρ.length:=by
   rcases Nat.lt_or_ge j ρ.length with q | q
   ·exact q
   ·rw[List.getElem?_eq_none (by rw[List.length_set];exact q)]at e;cases e
  rw[List.getElem?_set_self hlt]at e
  exact .inl ⟨rfl,(Option.some.inj e).symm,hlt⟩
 ·rw[List.getElem?_set_ne (fun e=>q e.symm)]at e
  exact .inr ⟨q,e⟩
theorem slot_get{x:Str}{i:Nat}(h:c.slot x=some i):c.ls[i]?=some x:=by
 have:=idxS_at x _ _ _ (slot_idx h);rwa [Nat.sub_zero]at this
theorem slot_inj{x y:Str}{i:Nat}(h:c.slot x=some i)(g:c.slot y=some i):x=y:=by
 have:=slot_get h;rw[slot_get g]at this;exact(Option.some.inj this).symm
theorem FI.frz(F:FI w c env ln hB hC N0 o N ρ h){i:Nat}{d:V}(e:ρ[i]?=some (.ow d))(hl:ln=none∨i≠0):∃ N',FI w c env ln hB hC N0 o N' (ρ.set i (.va d)) h:=by
 have ne:∀ j d',ρ[j]?=some (.ow d')→j≠i→o j≠o i:=fun j d' ej nj q=>nj (F.inj j i d' d ej e q)
 have sub:∀ a,(N a∧a≠o i)→N a:=fun a q=>q.1
 refine⟨fun a=>N a∧a≠o i,⟨F.e0,?_,?_,?_,F.cel,F.dis,F.gB,F.kp,F.kBC,F.kc,F.lnB,?_,F.l0,?_,F.ns,?_,?_,F.low,?_,?_,?_,?_⟩⟩
 ·intro x j sl hs hj
  rcases get_set hj with ⟨rfl,rfl,_⟩ | ⟨nj,hj⟩
  ·obtain⟨l,as,r,q⟩:=F.own x j d hs e
   exact⟨_,l,as,r,fun a m n=>(n.2 (by injection (q a m n.1).2 with u;exact u.symm)).elim⟩
  ·have:=F.inv x j sl hs hj
   cases sl with
   | un=>trivial
   | va d'=>exact let ⟨v,l,r⟩:=this;⟨v,l,r.less sub⟩
   | ow d'=>exact let ⟨v,l,r⟩:=this;⟨v,l,r.less sub⟩
 ·exact fun a q=>F.live a q.1
 ·rw[List.length_set];exact F.len
 ·exact fun a q=>⟨F.n0 a q,fun z=>by subst z;obtain⟨ob,eb⟩:=F.l0 _ q;rw[F.ownB e]at eb;cases eb⟩
 ·exact fun a q=>F.i a q.1
 ·exact⟨⟨F.loc.1,fun z=>(F.ownN i d e).2.2.1 z.symm⟩,F.loc.2⟩
 ·exact fun x a ea=>let ⟨q,r⟩:=F.cells x a ea;⟨⟨q,fun z=>(F.ownN i d e).2.2.2.1 x a ea z.symm⟩,r⟩
 ·intro x j d' hs hj
  rcases get_set hj with ⟨_,q,_⟩ | ⟨nj,hj⟩
  ·cases q
  ·obtain⟨l,r⟩:=F.own x j d' hs hj
   exact⟨l,r.less sub⟩
 ·intro j d' hj
  rcases get_set hj with ⟨_,q,_⟩ | ⟨nj,hj⟩
  ·cases q
  ·obtain⟨q,r⟩:=F.ownN j d' hj
   exact⟨⟨q,ne j d' hj nj⟩,r⟩
 ·intro j k d1 d2 hj hk
  rcases get_set hj with ⟨_,q,_⟩ | ⟨nj,hj⟩
  ·cases q
  ·rcases get_set hk with ⟨_,q,_⟩ | ⟨nk,hk⟩
   ·cases q
   ·exact F.inj j k d1 d2 hj hk
 ·intro L hL
  obtain⟨q,d',ed⟩:=F.lent L hL
  rcases hl with rfl | ni
  ·cases hL
  ·exact⟨q,d',by rw[List.getElem?_set_ne ni];exact ed⟩
theorem own_notT{a:Addr}{d:V}(hc:isCont d=true){b:Bool}(r:Rb w N b h (.ref a) d):∃ ob,h.get? a=some ob∧¬ (ob.cls=.type "tuple"∧∃ vs n,ob.data=.seq vs n):=by
 obtain⟨as,r,q⟩:=r
 cases r with
 | list e' _=>exact⟨_,e',fun q=>absurd (Value.type.inj q.1) (by decide)⟩
 | dict e' _ _ _=>exact⟨_,e',fun q=>absurd (Value.type.inj q.1) (by decide)⟩
 | tuple e' r'=>cases hc
theorem FI.mutK(F:FI w c env ln hB hC N0 o N ρ h){i:Nat}{d0 d:V}(e:ρ[i]?=some (.ow d0)){x:Str}(hx:c.slot x=some i)(hc:isCont d=true)(k:KpB (fun b=>b=o i) h h')(rb:Rb w N true h' (.ref (o i)) d):FI w c env ln hB hC N0 o N (ρ.set i (.ow d)) h':=by
 obtain⟨hN,hnew,nl,nc,hc0,hx0⟩:=F.ownN i d0 e
 have nt:NoT (fun b=>b=o i) h:=notT_of (own_notT hc0 (F.own x i d0 hx e).2)
 obtain⟨ob',lv,_⟩:=own_notT hc rb
 have lk:∀ y v,Look env h y v→Look env h' y v:=fun y v l=>l.but k (Ne.symm nl) fun a ea=>(nc y a ea).symm
 have ne:∀ j d',ρ[j]?=some (.ow d')→j≠i→Value.ref (o j) ≠ .ref (o i):=fun j d' ej nj q=>nj (F.inj j i d' d0 ej e (Value.ref.inj q))
 have hB0:=F.ownB e
 refine⟨F.e0,?_,?_,?_,?_,F.dis,F.gB,?_,F.kBC,?_,F.lnB,F.n0,F.l0,F.i,?_,F.loc,F.cells,F.low,?_,?_,?_,?_⟩
 ·intro y j sl hs hj
  rcases get_set hj with ⟨rfl,rfl,_⟩ | ⟨nj,hj⟩
  ·cases slot_inj hx hs
   exact⟨_,lk _ _ (F.own x j d0 hx e).1,rb⟩
  ·have:=F.inv y j sl hs hj
   cases sl with
   | un=>trivial
   | va d'=>exact let ⟨v,l,r⟩:=this;⟨v,lk _ _ l,Rb.but (fun a q=>q▸hN) k nt r⟩
   | ow d'=>
    obtain⟨l,r⟩:=F.own y j d' hs hj
    exact⟨_,lk _ _ l,r.butT hN k nt (ne j d' hj nj)⟩
 ·exact F.live.but k fun a q=>by subst q;exact⟨_,lv⟩
 ·rw[List.length_set];exact F.len
 ·intro y a ea
  obtain⟨u,ob,ho,hd⟩:=F.cel y a ea
  exact⟨u,ob,k _ _ (fun q=>nc y a ea q.symm) ho,hd⟩
 ·exact fun a ob ea=>k _ _ (fun q=>by subst q;rw[hB0]at ea;cases ea) (F.kp a ob ea)
 ·intro a ob na ea
  refine k _ _ (fun q=>?_) (F.kc a ob na ea)
  have q:a=o i:=q
  subst q
  rcases hnew with u | u
  ·rw[u]at ea;cases ea
  ·exact na u
 ·obtain⟨m,hm⟩:=F.ns
  exact⟨m,hm.at' fun ob e=>k _ ob (Ne.symm nl) e⟩
 ·intro y j d' hs hj
  rcases get_set hj with ⟨rfl,q,_⟩ | ⟨nj,hj⟩
  ·cases q
   cases slot_inj hx hs
   exact⟨lk _ _ (F.own x j d0 hx e).1,rb⟩
  ·obtain⟨l,r⟩:=F.own y j d' hs hj
   exact⟨lk _ _ l,r.butT hN k nt (ne j d' hj nj)⟩
 ·intro j d' hj
  rcases get_set hj with ⟨rfl,q,_⟩ | ⟨nj,hj⟩
  ·cases q
   exact⟨hN,hnew,nl,nc,hc,hx0⟩
  ·exact F.ownN j d' hj
 ·intro j l d1 d2 hj hl
  have back:∀ {j:Nat} {d1:V},(ρ.set i (Sl.ow d))[j]?=some (Sl.ow d1)→∃ d2,ρ[j]?=some (Sl.ow d2):=fun hj=>by
   rcases get_set hj with ⟨rfl,_,_⟩ | ⟨_,hj⟩
   ·exact⟨_,e⟩
   ·exact⟨_,hj⟩
  obtain⟨_,q1⟩:=back hj
  obtain⟨_,q2⟩:=back hl
  exact F.inj j l _ _ q1 q2
 ·intro L hL
  obtain⟨q,d',ed⟩:=F.lent L hL
  refine⟨q,?_⟩
  by_cases z:i=0
  ·subst z
   have hlt:0 < ρ.length:=by
    rcases Nat.lt_or_ge 0 ρ.length with q | q
    ·exact q
    ·rw[List.getElem?_eq_none q]at e;cases e
   exact⟨d,List.getElem?_set_self hlt⟩
  ·exact⟨d',by rw[List.getElem?_set_ne z];exact ed⟩
theorem FI.mut(F:FI w c env ln hB hC N0 o N ρ h){i:Nat}{d0 d:V}(e:ρ[i]?=some (.ow d0)){x:Str}(hx:c.slot x=some i)(hc:isCont d=true)(M:Mut w N (o i) h d h'):FI w c env ln hB hC N0 o N (ρ.set i (.ow d)) h':=F.mutK e hx hc M.kpb M.rb
noncomputable def SlNew(w:Pk)(env:Env)(hC:Heap)(ρ:Rho)(N:Addr→Prop)(h:Heap)(i:Nat)(o o':Nat→Addr)(v:Value):Sl→Prop
 | .un=>False
 | .va d=>Rb w N false h v d
 | .ow d=>v=.ref (o' i)∧Rb w N true h v d∧N (o' i)∧hC.get? (o' i)=none∧o' i≠env.locals∧(∀ x a,env.cells.lookup x=some a→o' i≠a)∧isCont d=true∧∀ j d',j≠i→ρ[j]?=some (.ow d')→o j≠o' i
theorem FI.store(F:FI w c env ln hB hC N0 o N ρ h){i:Nat}{x:Str}{v:Value}{sl:Sl}{t:Addr}{o':Nat→Addr}(ho:∀ j,j≠i→o' j=o j)(hx:c.slot x=some i)(hl:ln=none∨i≠0)(S:Stored env x v h h' t)(G:SlNew w env hC ρ N h i o o' v sl):
  FI w c env ln hB hC N0 o' N (ρ.set i sl) h':=by
 have k:=S.kp
 have nt:=S.nt
 have ht:N t∧hC.get? t=none:=by
  rcases S.at_ with rfl | ⟨_,e⟩
  ·exact F.loc
  ·exact⟨(F.cells _ _ e).1,(F.cells _ _ e).2.1⟩
 have hN:=ht.1
 have hB0:=dead F.kBC ht.2
 have nown:∀ j d',ρ[j]?=some (.ow d')→o j≠t:=fun j d' ej q=>by
  obtain⟨_,_,q1,q2,_⟩:=F.ownN j d' ej
  rcases S.at_ with u | ⟨_,e⟩
  ·exact q1 (q.trans u)
  ·exact q2 _ _ e q
 have but:∀ {u d},Rb w N false h u d→Rb w N false h' u d:=fun r=>Rb.but (fun a q=>q▸hN) k nt r
 have ny:∀ {y j},c.slot y=some j→j≠i→y≠x:=fun hy nj q=>by subst q;rw[hx]at hy;exact nj (Option.some.inj hy).symm
 have newR:∀ d,sl=.ow d→Rb w N true h' v d:=fun d q=>by
  subst q
  obtain⟨rfl,r,_,_,n1,n2,_⟩:=G
  refine r.butT hN k nt fun q=>?_
  have q:=Value.ref.inj q
  rcases S.at_ with u | ⟨_,e⟩
  ·exact n1 (q.trans u)
  ·exact n2 _ _ e q
 refine⟨F.e0,?_,?_,?_,?_,F.dis,F.gB,?_,F.kBC,?_,F.lnB,F.n0,F.l0,F.i,S.ns,F.loc,F.cells,F.low,?_,?_,?_,?_⟩
 ·intro y j sl' hs hj
  rcases get_set hj with ⟨rfl,rfl,_⟩ | ⟨nj,hj⟩
  ·cases slot_inj hx hs
   cases sl' with
   | un=>trivial
   | va d=>exact⟨v,S.look,but G⟩
   | ow d=>
    have:=newR d rfl
    obtain⟨rfl,_⟩:=G
    exact⟨_,S.look,this⟩
  ·have:=F.inv y j sl' hs hj
   cases sl' with
   | un=>trivial
   | va d'=>exact let ⟨u,l,r⟩:=this;⟨u,S.rest y u (ny hs nj) l,but r⟩
   | ow d'=>
    obtain⟨l,r⟩:=F.own y j d' hs hj
    exact⟨_,S.rest y _ (ny hs nj) l,r.butT hN k nt fun q=>nown j d' hj (Value.ref.inj q)⟩
 ·exact F.live.but k fun a q=>by subst q;exact S.lv
 ·rw[List.length_set];exact F.len
 ·exact fun y a e=>S.cel y a e (F.cel y a e)
 ·exact fun a ob ea=>k _ _ (fun q=>by subst q;rw[hB0]at ea;cases ea) (F.kp a ob ea)
 ·intro a ob na ea
  refine k _ _ (fun q=>?_) (F.kc a ob na ea)
  have q:a=t:=q
  subst q
  rw[ht.2]at ea;cases ea
 ·intro y j d' hs hj
  rcases get_set hj with ⟨rfl,q,_⟩ | ⟨nj,hj⟩
  ·cases slot_inj hx hs
   have:=newR d' q.symm
   subst q
   obtain⟨rfl,_⟩:=G
   exact⟨S.look,this⟩
  ·obtain⟨l,r⟩:=F.own y j d' hs hj
   rw[ho j nj]
   exact⟨S.rest y _ (ny hs nj) l,r.butT hN k nt fun q=>nown j d' hj (Value.ref.inj q)⟩
 ·intro j d' hj
  rcases get_set hj with ⟨rfl,q,_⟩ | ⟨nj,hj⟩
  ·subst q
   obtain⟨_,_,a,b,c,d,e,_⟩:=G
   exact⟨a,.inl b,c,d,e,x,hx⟩
  ·rw[ho j nj];exact F.ownN j d' hj
 ·intro j l d1 d2 hj hk q
  rcases get_set hj with ⟨rfl,q1,_⟩ | ⟨nj,hj'⟩
  ·rcases get_set hk with ⟨rfl,_,_⟩ | ⟨nk,hk'⟩
   ·rfl
   ·subst q1
    obtain⟨_,_,_,_,_,_,_,g⟩:=G
    rw[ho l nk]at q
    exact(g l d2 nk hk' q.symm).elim
  ·rcases get_set hk with ⟨rfl,q1,_⟩ | ⟨nk,hk'⟩
   ·subst q1
    obtain⟨_,_,_,_,_,_,_,g⟩:=G
    rw[ho j nj]at q
    exact(g j d1 nj hj' q).elim
   ·rw[ho j nj,ho l nk]at q
    exact F.inj j l d1 d2 hj' hk' q
 ·intro L hL
  obtain⟨q,d',ed⟩:=F.lent L hL
  rcases hl with rfl | ni
  ·cases hL
  ·rw[ho 0 (Ne.symm ni)]
   exact⟨q,d',by rw[List.getElem?_set_ne ni];exact ed⟩
end Mine
end
noncomputable section
open PySem PySem.W PyProof.Rows
namespace Mine
open K (R D DL X Orc Rec TgL)
variable{w:Pk}{A:Around}{s:Shared}{N N' N0:Addr→Prop}{h h' hB hC:Heap}{c:Cx}{env:Env}{ρ:Rho}{ln:Option Addr}{o:Nat→Addr}{z:V}
section
set_option tactic.hygienic true
theorem FI.chg(F:FI w c env ln hB hC N0 o N ρ h){W:Addr→Prop}(hN:∀ a,W a→N a)(ht:∀ a,W a→hC.get? a=none)(k:KpB W h h')(nt:NoT W h)(nl:¬ W env.locals)(nc:∀ x a,env.cells.lookup x=some a→¬ W a)(no:∀ i d,ρ[i]?=some (.ow d)→¬ W (o i))
  (sub:∀ a,N' a→N a) (sup:∀ a,N a→¬ W a→N' a) (lv:Live N' h'):
  FI w c env ln hB hC N0 o N' ρ h':=by
 have lk:∀ y v,Look env h y v→Look env h' y v:=fun y v l=>l.but k nl fun a ea=>nc y a ea
 have own:∀ x i d,c.slot x=some i→ρ[i]?=some (.ow d)→Look env h' x (.ref (o i))∧Rb w N' true h' (.ref (o i)) d:=fun x i d a b=>by
  refine bc fun gG=>?_
  obtain⟨l,as,r,q⟩:=F.own x i d a b
  refine gG ?_
  exact⟨lk _ _ l,as,r.but k nt fun a m e=>no i d b (by injection (q a m (hN a e)).2 with u;rw[u];exact e),fun a m n=>q a m (sub a n)⟩
 refine⟨F.e0,?_,lv,F.len,?_,F.dis,F.gB,?_,F.kBC,?_,F.lnB,?_,F.l0,fun a q=>F.i a (sub a q),?_,⟨sup _ F.loc.1 nl,F.loc.2⟩,fun x a e=>⟨sup _ (F.cells x a e).1 (nc x a e),(F.cells x a e).2⟩,F.low,own,fun i d b=>⟨sup _ (F.ownN i d b).1 (no i d b),(F.ownN i d b).2⟩,F.inj,F.lent⟩
 ·intro y j sl hs hj
  have:=F.inv y j sl hs hj
  cases sl with
  | un=>trivial
  | va d'=>exact let ⟨v,l,r⟩:=this;⟨v,lk _ _ l,(Rb.but hN k nt r).less sub⟩
  | ow d'=>exact⟨_,own y j d' hs hj⟩
 ·intro y a ea
  refine bc fun gG=>?_
  obtain⟨u,ob,ho,hd⟩:=F.cel y a ea
  refine gG ?_
  exact⟨u,ob,k _ _ (nc y a ea) ho,hd⟩
 ·exact fun a ob ea=>k _ _ (fun q=>by rw[dead F.kBC (ht a q)]at ea;cases ea) (F.kp a ob ea)
 ·exact fun a ob na ea=>k _ _ (fun q=>by rw[ht a q]at ea;cases ea) (F.kc a ob na ea)
 ·exact fun a q=>sup a (F.n0 a q) fun w=>by obtain⟨ob,e⟩:=F.l0 a q;rw[dead F.kBC (ht a w)]at e;cases e
 ·obtain⟨m,hm⟩:=F.ns
  exact⟨m,hm.at' fun ob e=>k _ ob nl e⟩
theorem FI.others(F:FI w c env ln hB hC N0 o N ρ h){W:Addr→Prop}(hN:∀ a,W a→N a)(ht:∀ a,W a→hC.get? a=none)(k:KpB W h h')(nt:NoT W h)(lv:∀ a,W a→∃ ob,h'.get? a=some ob)(nl:¬ W env.locals)(nc:∀ x a,env.cells.lookup x=some a→¬ W a)(no:∀ i d,ρ[i]?=some (.ow d)→¬ W (o i)):
  FI w c env ln hB hC N0 o N ρ h':=F.chg hN ht k nt nl nc no (fun _ q=>q) (fun _ q _=>q) (F.live.but k lv)
theorem FI.drop(F:FI w c env ln hB hC N0 o N ρ h){W:Addr→Prop}(hN:∀ a,W a→N a)(ht:∀ a,W a→hC.get? a=none)(k:KpB W h h')(nt:NoT W h)(nl:¬ W env.locals)(nc:∀ x a,env.cells.lookup x=some a→¬ W a)(no:∀ i d,ρ[i]?=some (.ow d)→¬ W (o i)):
  FI w c env ln hB hC N0 o (fun a=>N a∧¬ W a) ρ h':=F.chg hN ht k nt nl nc no (fun _ q=>q.1) (fun _ q n=>⟨q,n⟩) fun a q=>let ⟨ob,e⟩:=F.live a q.1;⟨ob,k _ _ q.2 e⟩
structure Md where
 ln:Bool
 fr:Bool
 own:List Nat
noncomputable def Post(w:Pk)(c:Cx)(m:Md)(env:Env)(ln:Option Addr)(hB hC:Heap)(N0:Addr→Prop)(kc kn:Rho→R)(z:V):Flow→Heap→Prop
 | .next,h=>∃ o N ρ,FI w c env ln hB hC N0 o N ρ h∧kn ρ=some z
 | .cont,h=>∃ o N ρ,FI w c env ln hB hC N0 o N ρ h∧kc ρ=some z
 | .ret v,h=>ln=none∧Rb w N0 false h v z∧KpB (fun a=>ln=some a) hC h∧Kp hB h∧(m.fr=true→isCont z=true→∃ x,v=.ref x∧hB.get? x=none)
 | .brk,_=>False
section
variable(w:Pk)(A:Around)(c:Cx)(m:Md)
noncomputable def SemOk(f:Env→Sem Flow)(x:X):Prop:=∀ (env:Env) (ln:Option Addr) (hB hC:Heap) (N0:Addr→Prop) (o:Nat→Addr) (N:Addr→Prop) (ρ:Rho) (s:Shared) (z:V) (kc kn:Rho→R) (Q:Flow→Shared→Prop),
 (m.ln=false→ln=none)→FI w c env ln hB hC N0 o N ρ s.heap→x kc kn ρ=some z→(∀ f h' tk,Post w c m env ln hB hC N0 kc kn z f h'→Q f (sx s h' tk))→wpAny (model prog w.w) A (f env) Q E s
noncomputable abbrev XOk(st:Stmt)(x:X):Prop:=SemOk w A c m (exec st) x
noncomputable abbrev BOk(ss:List Stmt)(x:X):Prop:=SemOk w A c m (execs ss) x
end
variable{m:Md}
theorem post_next{kc kn:Rho→R}(F:FI w c env ln hB hC N0 o N ρ h)(e:kn ρ=some z):Post w c m env ln hB hC N0 kc kn z .next h:=⟨o,N,ρ,F,e⟩
theorem sem_stuck{f:Env→Sem Flow}{x:X}(h:∀ kc kn ρ,x kc kn ρ=none):SemOk w A c m f x:=by
 intro env ln hB hC N0 o N ρ s z kc kn Q _ _ g
 rw[h]at g;cases g
theorem sem_if{f:Env→Sem Flow}{b:Bool}{x:X}(h:b=true→SemOk w A c m f x):SemOk w A c m f (if b then x else K.xStuck):=by
 cases b with
 | true=>exact h rfl
 | false=>exact sem_stuck fun _ _ _=>rfl
theorem frzK_some{i:Nat}{k:Rho→R}(h:K.frzK i ρ k=some z):k ρ=some z∨∃ d,ρ[i]?=some (.ow d)∧k (ρ.set i (.va d))=some z:=by
 obtain⟨sl,hs,h⟩:=K.getK_some h
 cases sl with
 | un=>exact .inl h
 | va d=>exact .inl h
 | ow d=>
  have h:K.setK i (.va d) ρ k=some z:=h
  rw[K.setK_eq]at h
  exact .inr ⟨d,hs,h⟩
noncomputable def frzX(m:Md)(is:List Nat)(x:X):X:=if m.ln || is.isEmpty then x else K.xFrz is x
theorem frz_go{kc kn:Rho→R}{x:X}:∀ (is:List Nat) {ρ:Rho} {N:Addr→Prop},FI w c env none hB hC N0 o N ρ h→K.xFrz is x kc kn ρ=some z→∃ N' ρ',FI w c env none hB hC N0 o N' ρ' h∧x kc kn ρ'=some z
 | [],ρ,N,F,h=>⟨N,ρ,F,h⟩
 | i::is,ρ,N,F,h=>by
  have h:K.frzK i ρ (K.xFrz is x kc kn)=some z:=h
  rcases frzK_some h with h | ⟨d,hd,h⟩
  ·exact frz_go is F h
  ·obtain⟨N',F'⟩:=F.frz hd (.inl rfl)
   exact frz_go is F' h
theorem sem_frz{f:Env→Sem Flow}{is:List Nat}{x:X}(H:SemOk w A c m f x):SemOk w A c m f (frzX m is x):=by
 unfold frzX
 split
 ·exact H
 ·rename_i q
  intro env ln hB hC N0 o N ρ s z kc kn Q hm F g out
  obtain rfl:=hm (by simp only[Bool.or_eq_true,not_or,Bool.not_eq_true]at q;exact q.1)
  refine bc fun gG=>?_
  obtain⟨N',ρ',F',g'⟩:=frz_go is F g
  refine gG ?_
  exact H env none hB hC N0 o N' ρ' s z kc kn Q hm F' g' out
theorem sem_nil:BOk w A c m [] K.xNil:=by
 intro env ln hB hC N0 o N ρ s z kc kn Q hm F g out
 exact wpAny_execs_nil (out .next s.heap s.toks (post_next F g))
theorem sem_cons{st:Stmt}{ss:List Stmt}{a b:X}(H1:XOk w A c m st a)(H2:BOk w A c m ss b):BOk w A c m (st::ss) (K.xSeq a b):=by
 intro env ln hB hC N0 o N ρ s z kc kn Q hm F g out
 refine wpAny_execs_cons (H1 env ln hB hC N0 o N ρ s z kc (fun ρ=>b kc kn ρ) _ hm F g fun f h' tk P=>?_)
 cases f with
 | next=>
  refine bc fun gG=>?_
  obtain⟨o',N',ρ',F',g'⟩:=P
  refine gG ?_
  exact H2 env ln hB hC N0 o' N' ρ' _ z kc kn Q hm F' g' fun f h'' tk' P=>out f h'' tk' P
 | cont=>exact out _ h' tk P
 | ret v=>exact out _ h' tk P
 | brk=>exact P.elim
theorem sem_cont{p:Pos}:XOk w A c m (.Continue p) K.xCont:=by
 intro env ln hB hC N0 o N ρ s z kc kn Q hm F g out
 exact wpAny_Continue (out .cont s.heap s.toks ⟨o,N,ρ,F,g⟩)
theorem sem_ret{e:PySem.Expr}{p:Pos}{d:D}(H:DOk w A c false e d)(hl:m.ln=false)(hf:m.fr=true→∃ n,isFresh n c e=true):XOk w A c m (.Return (some e) p) (K.xRet d):=by
 intro env ln hB hC N0 o N ρ s z kc kn Q hm F g out
 have g:d ρ some=some z:=g
 refine wpAny_Return_some (H env ρ N s z some m.fr _ F.cd g (fun q=>⟨rfl,hf q⟩) fun x hx v h' tk k r f=>?_)
 cases hx
 refine out (.ret v) h' tk ⟨hm hl,r.less F.n0,fun a ob na ea=>k _ _ (F.kc a ob na ea),F.kp.trans k,fun q zc=>?_⟩
 obtain⟨x,e,n⟩:=f q zc
 exact⟨x,e,dead F.kp n⟩
theorem sem_ite{t:PySem.Expr}{a b:List Stmt}{p:Pos}{d:D}{x y:X}(H:TOk w A c t d)(H1:BOk w A c m a x)(H2:BOk w A c m b y):XOk w A c m (.If t a b p) (K.xIte d x y):=by
 intro env ln hB hC N0 o N ρ s z kc kn Q hm F g out
 have g:d ρ (fun v=>K.vTrue v (x kc kn ρ) (y kc kn ρ))=some z:=g
 refine wpAny_If (H.go F.cd g fun t h' tk ht k=>?_)
 cases t with
 | true=>exact H1 env ln hB hC N0 o N ρ _ z kc kn Q hm (F.keeps k) ht fun f h'' tk' P=>out f h'' tk' P
 | false=>exact H2 env ln hB hC N0 o N ρ _ z kc kn Q hm (F.keeps k) ht fun f h'' tk' P=>out f h'' tk' P
theorem sem_while{t:PySem.Expr}{b:List Stmt}{p:Pos}{n:Nat}{d:D}{x:X}(H:TOk w A c t d)(H1:BOk w A c m b x):XOk w A c m (.While t b [] p) (K.xWhl n d x):=by
 intro env ln hB hC N0 o N ρ s z kc kn Q hm F g out
 let whl:Nat→Rho→R:=fun n ρ=>@Nat.rec (fun _=>Rho→R) (fun _=>none) (fun _ ih ρ=>d ρ fun v=>K.vTrue v (x ih ih ρ) (kn ρ)) n ρ
 refine wpAny_While (codeAny_whileLoop (fun n s'=>∃ o N ρ h tk,s'=(sx s h tk)∧FI w c env ln hB hC N0 o N ρ h∧whl n ρ=some z) ?_ n ⟨o,N,ρ,s.heap,s.toks,rfl,F,g⟩)
 rintro n s' ⟨o,N,ρ,h,tk,rfl,F,g⟩
 cases n with
 | zero=>cases g
 | succ n=>
  have g:d ρ (fun v=>K.vTrue v (x (whl n) (whl n) ρ) (kn ρ))=some z:=g
  refine anyE (H.go (s:=(sx s h tk)) F.cd g fun t h' tk' ht k=>?_)
  cases t with
  | false=>exact wpAny_execs_nil (out .next h' tk' ⟨o,N,ρ,F.keeps k,ht⟩)
  | true=>
   refine anyE (H1 env ln hB hC N0 o N ρ _ z (whl n) (whl n) _ hm (F.keeps k) ht fun f h'' tk'' P=>?_)
   cases f with
   | next=>
    refine bc fun gG=>?_
    obtain⟨o',N',ρ',F',g'⟩:=P
    refine gG ?_
    exact⟨n,Nat.lt_succ_self _,o',N',ρ',h'',tk'',rfl,F',g'⟩
   | cont=>
    refine bc fun gG=>?_
    obtain⟨o',N',ρ',F',g'⟩:=P
    refine gG ?_
    exact⟨n,Nat.lt_succ_self _,o',N',ρ',h'',tk'',rfl,F',g'⟩
   | ret v=>exact out (.ret v) h'' tk'' P
   | brk=>exact P.elim
end
end Mine
end
noncomputable section
open PySem PySem.W PyProof.Rows
namespace Mine
open K (R D DL X Orc Rec TgL)
variable{w:Pk}{A:Around}{s:Shared}{N N' N0:Addr→Prop}{h h' hB hC:Heap}{c:Cx}{env:Env}{ρ:Rho}{ln:Option Addr}{o o':Nat→Addr}{z:V}{m:Md}
open Classical in
noncomputable def cut(W:Addr→Prop)(h:Heap):Heap:={ h with objs:=h.objs.mapIdx fun a ob=>if W a then { ob with data:=.freed } else ob }
theorem cut_none{W:Addr→Prop}{a:Addr}(q:W a):(cut W h).get? a=none:=by
 unfold cut Heap.get?
 simp only[Array.getElem?_mapIdx,if_pos q]
 cases h.objs[a]? <;> rfl
theorem cut_some{W:Addr→Prop}{a:Addr}(q:¬ W a):(cut W h).get? a=h.get? a:=by
 unfold cut Heap.get?
 simp only[Array.getElem?_mapIdx,if_neg q,Option.map_id']
theorem cut_kp{W:Addr→Prop}:Kp (cut W h) h:=fun a ob e=>by
 by_cases q:W a
 ·rw[cut_none q]at e;cases e
 ·rw[cut_some q]at e;exact e
noncomputable def tupAt(h:Heap)(a:Addr):Prop:=∃ o,h.get? a=some o∧o.cls=.type "tuple"∧∃ vs n,o.data=.seq vs n
noncomputable def cW(N:Addr→Prop)(hB:Heap)(wr:List Addr)(h:Heap)(a:Addr):Prop:=N a∧hB.get? a=none∧a∉wr∧¬ tupAt h a
theorem not_tupAt{a:Addr}(x:∃ o,h.get? a=some o∧¬ (o.cls=.type "tuple"∧∃ vs n,o.data=.seq vs n)):¬ tupAt h a:=by
 obtain⟨o,e,n⟩:=x
 rintro⟨o',e',q⟩
 rw[e]at e';cases e';exact n q
theorem FI.ownT(F:FI w c env ln hB hC N0 o N ρ h){i:Nat}{d:V}(e:ρ[i]?=some (.ow d)):∃ ob,h.get? (o i)=some ob∧¬ (ob.cls=.type "tuple"∧∃ vs n,ob.data=.seq vs n):=by
 refine bc fun gG=>?_
 obtain⟨_,_,_,_,hc,x,hx⟩:=F.ownN i d e
 refine gG ?_
 exact own_notT hc (F.own x i d hx e).2
section
variable{wr:List Addr}
theorem base_kp(F:FI w c env ln hB hC N0 o N ρ h):Kp hB (cut (cW N hB wr h) h):=fun a ob e=>by
 rw[cut_some fun q=>by rw[q.2.1]at e;cases e];exact F.kp a ob e
theorem FI.base(F:FI w c env ln hB hC N0 o N ρ h)(hw:∀ a∈wr,N a∧hC.get? a=none)(no:∀ i d,ρ[i]?=some (.ow d)→o i∉wr)(nl:env.locals∉wr)(nc:∀ x a,env.cells.lookup x=some a→a∉wr):
  FI w c env ln (cut (cW N hB wr h) h) (cut (cW N hC wr h) h) (fun a=>N0 a∨a∈wr) o (fun a=>N0 a∨a∈wr∨cW N hB wr h a) ρ h:=by
 have sub:∀ a,(N0 a∨a∈wr∨cW N hB wr h a)→N a:=fun a q=>by
  rcases q with q | q | q
  ·exact F.n0 a q
  ·exact(hw a q).1
  ·exact q.1
 have both:∀ a,N a→hC.get? a=none→a∉wr→¬ tupAt h a→(N0 a∨a∈wr∨cW N hB wr h a)∧(cut (cW N hC wr h) h).get? a=none:=fun a n e nw nt=>⟨.inr (.inr ⟨n,dead F.kBC e,nw,nt⟩),cut_none ⟨n,e,nw,nt⟩⟩
 refine⟨F.e0,fun x i sl a b=>?_,fun a q=>F.live a (sub a q),F.len,F.cel,F.dis,?_,cut_kp,?_,fun a ob _ e=>cut_kp a ob e,?_,?_,?_,?_,F.ns,?_,?_,F.low,?_,?_,F.inj,F.lent⟩
 ·have:=F.inv x i sl a b
  cases sl with
  | un=>trivial
  | va d'=>exact let ⟨v,l,r⟩:=this;⟨v,l,r.less sub⟩
  | ow d'=>exact let ⟨v,l,r⟩:=this;⟨v,l,r.less sub⟩
 ·exact(F.gB.more fun a q=>q.elim .inl fun q=>.inr (dead F.kBC (hw a q).2)).keeps (base_kp F)
 ·intro a ob e
  by_cases q:cW N hB wr h a
  ·rw[cut_none q]at e;cases e
  ·rw[cut_some q]at e
   rw[cut_some fun q'=>q ⟨q'.1,dead F.kBC q'.2.1,q'.2.2⟩];exact e
 ·intro L hL
  obtain⟨q,d,ed⟩:=F.lent L hL
  subst q
  exact cut_none ⟨(F.ownN 0 d ed).1,F.ownB ed,no 0 d ed,not_tupAt (F.ownT ed)⟩
 ·exact fun a q=>q.elim .inl fun q=>.inr (.inl q)
 ·rintro a (q | q)
  ·obtain⟨ob,e⟩:=F.l0 a q
   exact⟨ob,base_kp F a ob e⟩
  ·obtain⟨ob,e⟩:=F.live a (hw a q).1
   exact⟨ob,by rw[cut_some fun q'=>q'.2.2.1 q];exact e⟩
 ·rintro a (q | q | q)
  ·exact .inl (.inl q)
  ·exact .inl (.inr q)
  ·exact .inr (cut_none q)
 ·obtain⟨m,hm⟩:=F.ns
  exact both _ F.loc.1 F.loc.2 nl (not_tupAt (ns_live hm))
 ·intro x a e
  refine bc fun gG=>?_
  obtain⟨q1,q2,q3⟩:=F.cells x a e
  obtain⟨u,hu⟩:=F.cel x a e
  obtain⟨r1,r2⟩:=both a q1 q2 (nc x a e) (not_tupAt (cell_live hu))
  refine gG ?_
  exact⟨r1,r2,q3⟩
 ·exact fun x i d a b=>let ⟨l,r⟩:=F.own x i d a b;⟨l,r.less sub⟩
 ·intro i d b
  obtain⟨q1,q2,q3⟩:=F.ownN i d b
  have nt:=not_tupAt (F.ownT b)
  exact⟨.inr (.inr ⟨q1,F.ownB b,no i d b,nt⟩),q2.elim (fun q2=>.inl (both _ q1 q2 (no i d b) nt).2) .inr,q3⟩
theorem base_kc(F:FI w c env ln hB hC N0 o N ρ h){h':Heap}(k:KpB (fun a=>ln=some a) (cut (cW N hC wr h) h) h'):KpB (fun a=>ln=some a) hC h':=fun a ob na e=>
 k a ob na (by rw[cut_some fun q=>by rw[q.2.1]at e;cases e];exact F.kc a ob na e)
theorem FI.unbase(F:FI w c env ln hB hC N0 o N ρ h)(hw:∀ a∈wr,N a∧hC.get? a=none){N':Addr→Prop}{ρ':Rho}{h':Heap}(G:FI w c env ln (cut (cW N hB wr h) h) (cut (cW N hC wr h) h) (fun a=>N0 a∨a∈wr) o' N' ρ' h'):
  FI w c env ln hB hC N0 o' N' ρ' h'∧(∀ a∈wr,N' a)∧((∀ L,ln=some L→L∉wr)→∀ i d,ρ'[i]?=some (.ow d)→o' i∉wr):=by
 refine⟨⟨G.e0,G.inv,G.live,G.len,G.cel,G.dis,F.gB,(base_kp F).trans G.kp,F.kBC,base_kc F G.kc,F.lnB,fun a q=>G.n0 a (.inl q),F.l0,?_,G.ns,⟨G.loc.1,F.loc.2⟩,fun x a e=>⟨(G.cells x a e).1,(F.cells x a e).2⟩,G.low,G.own,?_,G.inj,G.lent⟩,fun a q=>G.n0 a (.inr q),?_⟩
 ·intro a q
  rcases G.i a q with (q | q) | q
  ·exact .inl q
  ·exact .inr (dead F.kBC (hw a q).2)
  ·exact .inr (dead (base_kp F) q)
 ·intro i d b
  obtain⟨q1,q2,q3⟩:=G.ownN i d b
  refine⟨q1,?_,q3⟩
  rcases q2 with q2 | q2
  ·by_cases ql:ln=some (o' i)
   ·exact .inr ql
   ·left
    cases e:hC.get? (o' i) with
    | none=>rfl
    | some ob=>
     have e2:=F.kc _ _ ql e
     rw[cut_some (fun q=>by rw[q.2.1]at e;cases e),e2]at q2;cases q2
  ·exact .inr q2
 ·intro hl i d b m
  rcases (G.ownN i d b).2.1 with q | q
  ·obtain⟨ob,e⟩:=F.live _ (hw _ m).1
   rw[cut_some fun q'=>q'.2.2.1 m,e]at q;cases q
  ·exact hl _ q m
theorem ret_unbase{kc kn:Rho→R}(F:FI w c env ln hB hC N0 o N ρ h){v:Value}{h':Heap}(P:Post w c m env ln (cut (cW N hB wr h) h) (cut (cW N hC wr h) h) (fun a=>N0 a∨a∈wr) kc kn z (.ret v) h'){kc' kn':Rho→R}:
  Post w c m env ln hB hC N0 kc' kn' z (.ret v) h':=by
 refine bc fun gG=>?_
 obtain⟨p1,p2,p3,p4,p5⟩:=P
 refine gG ?_
 exact⟨p1,p2.less fun a q=>.inl q,base_kc F p3,(base_kp F).trans p4,fun a b=>let ⟨x,e,n⟩:=p5 a b;⟨x,e,dead (base_kp F) n⟩⟩
end
end Mine
end
noncomputable section
open PySem PySem.W PyProof.Rows
namespace Mine
open K (R D DL X Orc Rec TgL)
variable{w:Pk}{A:Around}{s:Shared}{N N' N0 N1:Addr→Prop}{h h' hB hC:Heap}{c:Cx}{env:Env}{ρ:Rho}{ln:Option Addr}{o o':Nat→Addr}{z:V}{m:Md}
section
set_option tactic.hygienic true
noncomputable def wSlot(m:Md)(c:Cx)(x:Str):Option Nat:=match c.slot x with
 | some i=>if m.ln&&i==0 then none else some i
 | none=>none
noncomputable def wSlots(m:Md)(c:Cx):List Str→Option (List Nat)
 | []=>some []
 | x::xs=>match wSlot m c x with
  | some i=>(wSlots m c xs).map (i :: ·)
  | none=>none
theorem wSlot_ok{x:Str}{i:Nat}(h:wSlot m c x=some i)(hm:m.ln=false→ln=none):c.slot x=some i∧(ln=none∨i≠0):=by
 unfold wSlot at h
 split at h
 ·rename_i j hj
  split at h
  ·cases h
  ·rename_i q
   cases h
   refine⟨hj,?_⟩
   by_cases hi:i=0
   ·subst hi
    exact .inl (hm (by simpa using q))
   ·exact .inr hi
 ·cases h
theorem fi_store{x:Str}{i:Nat}{v:Value}{sl:Sl}{Q:Unit→Shared→Prop}(F:FI w c env ln hB hC N0 o N ρ s.heap)(hx:c.slot x=some i)(hl:ln=none∨i≠0)(ho:∀ j,j≠i→o' j=o j)(G:SlNew w env hC ρ N s.heap i o o' v sl)
  (q:∀ h' tk t,Stored env x v s.heap h' t→FI w c env ln hB hC N0 o' N (ρ.set i sl) h'→Q () (sx s h' tk)):wpAny (model prog w.w) A (storeName env x v) Q E s:=by
 refine store_ok F.e0.kind (F.low x i hx) F.ns (fun hk=>?_) (fun y a e=>(F.cells y a e).2.2) F.dis fun h' tk t S=>q h' tk t S (F.store ho hx hl S G)
 obtain⟨k,hk2,hk3⟩:=slot_kind hx
 rcases hk3 with rfl | hk3
 ·rw[F.e0.loc x hk2]at hk;cases hk
 ·obtain⟨a,e⟩:=F.e0.has x (by rcases hk3 with rfl | rfl;exact .inl hk2;exact .inr hk2)
  obtain⟨u,iu⟩:=F.cel x a e
  exact⟨a,u,e,iu⟩
theorem fi_va{x:Str}{i:Nat}{v:Value}{d:V}{Q:Unit→Shared→Prop}(F:FI w c env ln hB hC N0 o N ρ s.heap)(hx:c.slot x=some i)(hl:ln=none∨i≠0)(r:Rb w N false s.heap v d)
  (q:∀ h' tk t,Stored env x v s.heap h' t→FI w c env ln hB hC N0 o N (ρ.set i (.va d)) h'→Q () (sx s h' tk)):wpAny (model prog w.w) A (storeName env x v) Q E s:=
 fi_store F hx hl (fun _ _=>rfl) (sl:=.va d) r q
theorem ow_set{ρ:Rho}{i j:Nat}{d d':V}(h:(ρ.set i (Sl.va d))[j]?=some (Sl.ow d')):ρ[j]?=some (Sl.ow d'):=by
 rcases get_set h with ⟨_,q,_⟩ | ⟨_,q⟩
 ·cases q
 ·exact q
theorem stored_kpb{x:Str}{v:Value}{t:Addr}(S:Stored env x v h h' t):KpB (fun b=>b=env.locals∨∃ x,env.cells.lookup x=some b) h h':=fun a ob na e=>S.kp a ob (fun q=>by
 have q:a=t:=q
 subst q
 rcases S.at_ with q | ⟨_,q⟩
 ·exact na (.inl q)
 ·exact na (.inr ⟨_,q⟩)) e
theorem store_row(hm:m.ln=false→ln=none):∀ (ts:List Str) (is:List Nat) (vs:List Value) (row:List V) (ρ:Rho) (s:Shared) (k:Rho→R) (Q:Shared→Prop),wSlots m c ts=some is→ts.length=vs.length→RbL w N false s.heap vs row→FI w c env ln hB hC N0 o N ρ s.heap→K.storeK is ρ row k=some z→
  (∀ h' tk (ρ':Rho),FI w c env ln hB hC N0 o N ρ' h'→KpB (fun b=>b=env.locals∨∃ x,env.cells.lookup x=some b) s.heap h'→k ρ'=some z→(∀ (j:Nat) (d:V),ρ'[j]?=some (Sl.ow d)→ρ[j]?=some (Sl.ow d))→Q (sx s h' tk))→SeqSt w A env ts vs Q s
 | [],is,[],row,ρ,s,k,Q,hs,hl,rr,F,g,q=>by
  cases hs
  cases rr
  exact q s.heap s.toks ρ F (fun _ _ _ e=>e) g fun _ _ e=>e
 | [],_,_::_,_,_,_,_,_,_,hl,_,_,_,_=>by cases hl
 | _::_,_,[],_,_,_,_,_,_,hl,_,_,_,_=>by cases hl
 | x::ts,is,v::vs,row,ρ,s,k,Q,hs,hl,rr,F,g,q=>by
  have hs:(match wSlot m c x with | some i=>(wSlots m c ts).map (i :: ·) | none=>none)=some is:=hs
  cases hi:wSlot m c x with
  | none=>rw[hi]at hs;cases hs
  | some i=>
   rw[hi]at hs
   refine bc fun gG=>?_
   obtain⟨is',hs',rfl⟩:=Option.map_eq_some_iff.mp hs
   refine gG ?_
   cases rr with
   | @cons _ d _ ds r rr=>
    have g:K.setK i (.va d) ρ (fun ρ=>K.storeK is' ρ ds k)=some z:=g
    rw[K.setK_eq]at g
    obtain⟨hx,hl0⟩:=wSlot_ok hi hm
    refine fi_va F hx hl0 r fun h' tk t S F'=>?_
    have ht:N t:=by
     rcases S.at_ with rfl | ⟨_,e⟩
     ·exact F.loc.1
     ·exact(F.cells _ _ e).1
    refine store_row hm ts is' vs ds _ (sx s h' tk) k Q hs' (by simpa using hl) (RbL.but (fun a e=>e▸ht) S.kp S.nt rr) F' g fun h'' tk' ρ' F'' k2 g' ho=>?_
    exact q h'' tk' ρ' F'' ((stored_kpb S).trans k2) g' fun j d e=>ow_set (ho j d e)
theorem for_loop(hh:A.handled=none){target:PySem.Expr}{b:List Stmt}{ts:List Str}{is:List Nat}{x:X}(hi:wSlots m c ts=some is)(H1:BOk w A c m b x)(hm:m.ln=false→ln=none)
  {bb:Bool} {Nr N1:Addr→Prop} {h0 h1:Heap} {rows:List (List V)} {I:Addr} {fp wr:List Addr} {P M:Nat→Value→Heap→Prop} {St:Nat→Heap→Prop} (T:Itr w A bb target ts Nr h0 h1 rows I fp wr P M St)
  (hfp:∀ b∈fp,b∈wr∨∃ ob,hB.get? b=some ob) (hrow:∀ {vs:List Value} {row:List V},RbL w Nr false h0 vs row→RbL w N1 false hB vs row) (hN1:∀ a,N0 a→N1 a) (dw:∀ a∈wr,hC.get? a=none) (nl:env.locals∉wr) (nc:∀ x a,env.cells.lookup x=some a→a∉wr) (nL:∀ L,ln=some L→L∉wr)
  {kc kn:Rho→R} {lp:List (List V)→Rho→R} (hlp0:lp []=kn) (hlp:∀ row rows ρ,lp (row::rows) ρ=K.storeK is ρ row fun ρ=>x (lp rows) (lp rows) ρ)
  (st:St 0 s.heap) (F:FI w c env ln hB hC N0 o N ρ s.heap) (wN:∀ a∈wr,N a) (no:∀ i d,ρ[i]?=some (.ow d)→o i∉wr) (g:lp rows ρ=some z) {R:Result→Shared→Prop}
  (out:∀ f h' tk,Post w c m env ln hB hC N0 kc kn z f h'→R (.ok f) (sx s h' tk)):codeAny (model prog w.w) A (.forLoop target (.ref I) b [] env) R s:=by
 refine codeAny_forLoop_any (fun n s'=>∃ i o N ρ h tk,s'=(sx s h tk)∧i≤rows.length∧n=rows.length - i∧St i h∧FI w c env ln hB hC N0 o N ρ h∧(∀ a∈wr,N a)∧(∀ i d,ρ[i]?=some (.ow d)→o i∉wr)∧lp (rows.drop i) ρ=some z) ?_ rows.length
  ⟨0,o,N,ρ,s.heap,s.toks,rfl,Nat.zero_le _,rfl,st,F,wN,no,g⟩
 clear st F wN no g
 rintro n s' ⟨i,o,N,ρ,h,tk,rfl,hi',rfl,st,F,wN,no,g⟩
 have nt:NoT (fun a=>a∈wr) h:=fun a ob q e t=>by
  obtain⟨ob',e',n⟩:=T.live i h st a q
  rw[e]at e';cases e';exact n t
 by_cases hlt:i < rows.length
 ·refine T.turns.item i (sx s h tk) _ _ hlt st fun v h₁ tk₁ hMd kw₁=>?_
  refine T.turns.go i v (sx s h₁ tk₁) _ _ hMd fun h₂ hP st₂ kw₂=>?_
  refine bc fun gG=>?_
  obtain⟨vs,row,hr,U,rr⟩:=T.row i v h₂ hlt hP
  refine gG ?_
  have k02:KpB (fun a=>a∈wr) h h₂:=fun a ob na e=>kw₂ a ob na (kw₁ a ob na e)
  have F2:=F.others wN dw k02 nt (fun a q=>let ⟨ob,e,_⟩:=T.live _ _ st₂ a q;⟨ob,e⟩) nl nc no
  refine anyE (assign_unp (s:=(sx s h₂ tk₁)) hh U fun h₃ k₃=>?_)
  have F3:=F2.keeps k₃
  have st₃:St (i + 1) h₃:=T.turns.frame _ _ _ st₂ fun b _ ob e=>k₃ b ob e
  obtain⟨rest,hdrop,rfl⟩:∃ l,rows.drop i=row::l∧l=rows.drop (i + 1):=⟨_,by rw[List.drop_eq_getElem_cons hlt];rw[List.getElem?_eq_getElem hlt]at hr;rw[Option.some.inj hr],rfl⟩
  rw[hdrop,hlp]at g
  have rr3:RbL w N false h₃ vs row:=(hrow rr).mono fun _ _ q=>(q.more fun a n=>(F3.i a n).elim (fun n=>.inl (hN1 a n)) .inr).keeps F3.kp
  refine store_row (s:=(sx s h₃ tk₁)) hm ts is vs row ρ _ _ hi U.len rr3 F3 g fun h₄ tk₄ ρ' F4 k4 g4 ho=>?_
  have k4f:∀ b∈fp,∀ ob,h₃.get? b=some ob→h₄.get? b=some ob:=fun b q ob e=>by
   rcases hfp b q with q | ⟨ob',e'⟩
   ·refine k4 b ob ?_ e
    rintro(rfl | ⟨x,ex⟩)
    ·exact nl q
    ·exact nc x b ex q
   ·have a1:=F3.kp _ _ e'
    have a2:=F4.kp _ _ e'
    rw[a1]at e;cases e;exact a2
  have st₄:St (i + 1) h₄:=T.turns.frame _ _ _ st₃ k4f
  have no4:∀ j d,ρ'[j]?=some (.ow d)→o j∉wr:=fun j d e=>no j d (ho j d e)
  have hw:∀ a∈wr,N a∧hC.get? a=none:=fun a q=>⟨wN a q,dw a q⟩
  refine anyE (H1 env ln _ _ _ o _ ρ' (sx s h₄ tk₄) z (lp (rows.drop (i + 1))) (lp (rows.drop (i + 1))) _ hm (F4.base hw no4 nl nc) g4 fun f h₅ tk₅ Pf=>?_)
  have fin:∀ {o':Nat→Addr} {N':Addr→Prop} {ρ'':Rho},FI w c env ln (cut (cW N hB wr h₄) h₄) (cut (cW N hC wr h₄) h₄) (fun a=>N0 a∨a∈wr) o' N' ρ'' h₅→lp (rows.drop (i + 1)) ρ''=some z→
    ∃ m,m < rows.length - i∧∃ i o N ρ h tk,((sx s h₅ tk₅):Shared)=(sx s h tk)∧i≤rows.length∧m=rows.length - i∧St i h∧FI w c env ln hB hC N0 o N ρ h∧(∀ a∈wr,N a)∧(∀ i d,ρ[i]?=some (.ow d)→o i∉wr)∧lp (rows.drop i) ρ=some z:=fun {o' N' ρ''} G g5=>by
   obtain⟨F5,w5,n5⟩:=F4.unbase hw G
   refine⟨rows.length - (i + 1),by omega,i + 1,o',N',ρ'',h₅,tk₅,rfl,hlt,rfl,T.turns.frame _ _ _ st₄ fun b q ob e=>?_,F5,w5,n5 nL,g5⟩
   refine G.kp b ob ?_
   rw[cut_some ?_];exact e
   rintro⟨_,u2,u3,_⟩
   rcases hfp b q with q | ⟨ob',e'⟩
   ·exact u3 q
   ·rw[u2]at e';cases e'
  cases f with
  | next=>
   refine bc fun gG=>?_
   obtain⟨o',N',ρ'',G,g5⟩:=Pf
   refine gG ?_
   exact fin G g5
  | cont=>
   refine bc fun gG=>?_
   obtain⟨o',N',ρ'',G,g5⟩:=Pf
   refine gG ?_
   exact fin G g5
  | ret v=>exact out (.ret v) h₅ tk₅ (ret_unbase F4 Pf)
  | brk=>exact Pf.elim
 ·have hi2:i=rows.length:=by omega
  subst hi2
  rw[List.drop_length,hlp0]at g
  refine T.turns.done (sx s h tk) _ _ st fun h' tk' kw=>wpAny_execs_nil ?_
  exact out .next h' tk' ⟨o,_,ρ,F.drop wN dw kw nt nl nc no,g⟩
theorem sem_for(hh:A.handled=none){r:Rec}{target iter:PySem.Expr}{b:List Stmt}{p:Pos}{ts:List Str}{is:List Nat}{kd:Nat}{xs:List D}{x:X}(HS:∀ b e,DOk w A c b e (r c b e))(ht:tgNames target=some ts)(hi:wSlots m c ts=some is)(hit:K.itD r c false iter=some (kd,xs))(hk:okT true kd ts.length target=true)
  (H1:BOk w A c m b x):XOk w A c m (.For target iter b [] p) (K.xFor is kd (K.lD xs) x):=by
 intro env ln hB hC N0 o N ρ s z kc kn Q hm F g out
 let lp:List (List V)→Rho→R:=fun rows ρ=>@List.rec (List V) (fun _=>Rho→R) kn (fun row _ ih ρ=>K.storeK is ρ row fun ρ=>x ih ih ρ) rows ρ
 have g:K.lD xs ρ (fun vs=>K.rowsK kd vs fun rows=>lp rows ρ)=some z:=g
 refine wpAny_For (src_ok hh HS F.cd ht hit hk g fun rows hr hl=>?_) fun x=>folded_pure (it_noset hit) x
 intro I h0 h1 tk fp wr P M St kp T
 have F0:=F.keeps kp
 have dw:∀ a∈wr,hC.get? a=none:=fun a q=>by
  cases e:hC.get? a with
  | none=>rfl
  | some ob=>
   exfalso
   have z:=T.new a q
   by_cases ql:ln=some a
   ·refine bc fun gG=>?_
    obtain⟨e1,d,ed⟩:=F0.lent a ql
    obtain⟨ob',e',_⟩:=F0.ownT ed
    refine gG ?_
    rw[e1,z]at e';cases e'
   ·rw[F0.kc a ob ql e]at z;cases z
 have F1:FI w c env ln hB hC N0 o (fun a=>N a∨a∈wr) ρ h1:=F0.grow (fun a q=>.inl q) (fun a q=>q.elim .inl fun q=>.inr (T.new a q)) T.keep fun a q=>q.elim (fun q=>let ⟨ob,e⟩:=F0.live a q;⟨ob,T.keep _ _ e⟩) fun q=>let ⟨ob,e,_⟩:=T.live 0 h1 T.st0 a q;⟨ob,e⟩
 have nl:env.locals∉wr:=fun q=>by obtain⟨mm,hmm⟩:=F0.ns;obtain⟨ob,e,_⟩:=ns_live hmm;rw[T.new _ q]at e;cases e
 have nc:∀ x a,env.cells.lookup x=some a→a∉wr:=fun x a ea q=>by obtain⟨u,i⟩:=F0.cel x a ea;obtain⟨ob,e,_⟩:=cell_live i;rw[T.new _ q]at e;cases e
 have no:∀ i d,ρ[i]?=some (.ow d)→o i∉wr:=fun i d b q=>by obtain⟨ob,e,_⟩:=F0.ownT b;rw[T.new _ q]at e;cases e
 have nL:∀ L,ln=some L→L∉wr:=fun L hL q=>by obtain⟨e1,d,ed⟩:=F0.lent L hL;exact no 0 d ed (e1▸q)
 have F2:=F1.base (wr:=[]) (fun a q=>nomatch q) (fun _ _ _ q=>nomatch q) (fun q=>nomatch q) (fun _ _ _ q=>nomatch q)
 have un:=fun {o':Nat→Addr} {N':Addr→Prop} {ρ':Rho} {h':Heap} G=>(F1.unbase (wr:=[]) (o':=o') (N':=N') (ρ':=ρ') (h':=h') (fun a q=>nomatch q) G).1
 have ru:=fun {v:Value} {h':Heap} P=>ret_unbase (wr:=[]) (m:=m) (z:=z) (kc:=kc) (kn:=kn) (v:=v) (h':=h') F1 P (kc':=kc) (kn':=kn)
 have F2i:∀ a,(fun a=>N0 a∨a∈([]:List Addr)) a→(fun a=>N a∨a∈wr) a:=fun a q=>q.elim (fun q=>.inl (F.n0 a q)) fun q=>nomatch q
 have w2:∀ a∈wr,cW (fun a=>N a∨a∈wr) hB [] h1 a∧(cut (cW (fun a=>N a∨a∈wr) hC [] h1) h1).get? a=none:=fun a q=>
  have nt:=not_tupAt (T.live 0 h1 T.st0 a q)
  ⟨⟨.inr q,dead F.kBC (dw a q),(fun q=>nomatch q),nt⟩,cut_none ⟨.inr q,dw a q,(fun q=>nomatch q),nt⟩⟩
 have hfp:∀ b∈fp,b∈wr∨∃ ob,(cut (cW (fun a=>N a∨a∈wr) hB [] h1) h1).get? b=some ob:=fun b q=>by
  rcases T.out rfl b q with q1 | q1
  ·exact .inl q1
  ·by_cases qw:b∈wr
   ·exact .inl qw
   ·obtain⟨ob,e⟩:=T.fpl b q
    refine .inr ⟨ob,?_⟩
    rw[cut_some ?_];exact e
    rintro⟨u,_,_,nt⟩
    rcases q1 with q1 | ⟨ob',e',tt⟩
    ·exact u.elim q1 qw
    ·exact nt ⟨ob',T.keep _ _ e',tt⟩
 have hrow:∀ {vs:List Value} {row:List V},RbL w N false h0 vs row→RbL w (fun a=>N a∨a∈wr) false (cut (cW (fun a=>N a∨a∈wr) hB [] h1) h1) vs row:=fun rr=>
  RbL.but (W:=cW (fun a=>N a∨a∈wr) hB [] h1) (fun a q=>q.1) (fun a ob na e=>by rw[cut_some na];exact e) (fun a ob q e t=>q.2.2.2 ⟨ob,e,t⟩)
   (rr.mono fun _ _ r=>(r.more fun a q=>q.elim .inl fun q=>.inr (T.new a q)).keeps T.keep)
 refine for_loop (kc:=kc) (kn:=kn) (lp:=lp) (s:=(sx s h1 tk)) hh hi H1 hm T hfp hrow F2i (fun a q=>(w2 a q).2) nl nc nL rfl (fun _ _ _=>rfl) T.st0 F2 (fun a q=>.inr (.inr (w2 a q).1)) no hr fun f h' tk' P=>?_
 cases f with
 | next=>
  refine bc fun gG=>?_
  obtain⟨o',N',ρ',G,g'⟩:=P
  refine gG ?_
  exact out .next h' tk' ⟨o',N',ρ',un G,g'⟩
 | cont=>
  refine bc fun gG=>?_
  obtain⟨o',N',ρ',G,g'⟩:=P
  refine gG ?_
  exact out .cont h' tk' ⟨o',N',ρ',un G,g'⟩
 | ret v=>exact out (.ret v) h' tk' (ru P)
 | brk=>exact P.elim
end
noncomputable def NewV(w:Pk)(env:Env)(hC:Heap)(ρ:Rho)(N:Addr→Prop)(h:Heap)(o:Nat→Addr)(v:Value):Sl→Prop
 | .un=>False
 | .va d=>Rb w N false h v d
 | .ow d=>∃ a,v=.ref a∧Rb w N true h v d∧N a∧hC.get? a=none∧a≠env.locals∧(∀ x b,env.cells.lookup x=some b→a≠b)∧isCont d=true∧∀ j d',ρ[j]?=some (.ow d')→o j≠a
theorem FI.fresh(F:FI w c env ln hB hC N0 o N ρ h){a:Addr}(na:h.get? a=none):hC.get? a=none∧a≠env.locals∧(∀ x b,env.cells.lookup x=some b→a≠b)∧(∀ j d',ρ[j]?=some (.ow d')→o j≠a)∧¬ N a:=by
 have own:∀ j d',ρ[j]?=some (.ow d')→o j≠a:=fun j d' e q=>by
  obtain⟨ob,e',_⟩:=F.ownT e
  rw[q,na]at e';cases e'
 refine⟨?_,fun q=>?_,fun x b e q=>?_,own,fun q=>?_⟩
 ·cases e:hC.get? a with
  | none=>rfl
  | some ob=>
   by_cases ql:ln=some a
   ·obtain⟨e1,d,ed⟩:=F.lent a ql
    exact(own 0 d ed e1).elim
   ·rw[F.kc a ob ql e]at na;cases na
 ·refine bc fun gG=>?_
  obtain⟨mm,hm⟩:=F.ns
  obtain⟨ob,e,_⟩:=ns_live hm
  refine gG ?_
  rw[← q,na]at e;cases e
 ·refine bc fun gG=>?_
  obtain⟨u,i⟩:=F.cel x b e
  obtain⟨ob,e,_⟩:=cell_live i
  refine gG ?_
  rw[← q,na]at e;cases e
 ·obtain⟨ob,e⟩:=F.live a q
  rw[na]at e;cases e
noncomputable def ownS(own:Bool)(d:V):Sl:=if own&&isCont d then .ow d else .va d
theorem own_new(F:FI w c env ln hB hC N0 o N ρ h)(k:Kp h h'){own:Bool}{v:Value}{d:V}(sub:∀ a,N a→N1 a)(i:∀ a,N1 a→N a∨h.get? a=none)(lv:Live N1 h')(r:Rb w N1 false h' v d)(fr:own=true→isCont d=true→∃ a,v=.ref a∧h.get? a=none):
  ∃ N',FI w c env ln hB hC N0 o N' ρ h'∧(∀ a,N1 a→N' a)∧(∀ a,N' a→N1 a∨(∃ d,ownS own d=.ow d)∧v=.ref a∧h.get? a=none)∧NewV w env hC ρ N' h' o v (ownS own d):=by
 unfold ownS
 by_cases q:(own&&isCont d)=true
 ·rw[if_pos q]
  simp only[Bool.and_eq_true]at q
  refine bc fun gG=>?_
  obtain⟨a,rfl,na⟩:=fr q.1 q.2
  obtain⟨f1,f2,f3,f4,f5⟩:=F.fresh na
  obtain⟨ob,la,_⟩:=own_notT q.2 r
  refine gG ?_
  refine⟨fun x=>N1 x∨x=a,F.grow (fun x n=>.inl (sub x n)) (fun x n=>n.elim (i x) fun e=>by subst e;exact .inr na) k (fun x n=>n.elim (lv x) fun e=>by subst e;exact⟨_,la⟩),fun x n=>.inl n,fun x n=>n.elim .inl fun e=>.inr ⟨⟨d,by simp [q.1,q.2]⟩,by rw[e],by rw[e];exact na⟩,a,rfl,?_,.inr rfl,f1,f2,f3,q.2,f4⟩
  obtain⟨as,r,g⟩:=r
  refine⟨as,r,fun x m n=>?_⟩
  rcases n with n | rfl
  ·exact absurd (g x m n).1 (by decide)
  ·exact⟨rfl,rfl⟩
 ·rw[if_neg q]
  exact⟨N1,F.grow sub i k lv,fun _ n=>n,fun _ n=>.inl n,r⟩
noncomputable def addrOf:Value→Addr
 | .ref a=>a
 | _=>0
theorem fi_new{x:Str}{i:Nat}{v:Value}{sl:Sl}{Q:Unit→Shared→Prop}(F:FI w c env ln hB hC N0 o N ρ s.heap)(hx:c.slot x=some i)(hl:ln=none∨i≠0)(G:NewV w env hC ρ N s.heap o v sl)
  (q:∀ h' tk t o',Stored env x v s.heap h' t→FI w c env ln hB hC N0 o' N (ρ.set i sl) h'→(∀ j,j≠i→o' j=o j)→o' i=addrOf v→Q () (sx s h' tk)):wpAny (model prog w.w) A (storeName env x v) Q E s:=by
 refine fi_store (o':=fun j=>if j=i then addrOf v else o j) (sl:=sl) F hx hl (fun j nj=>if_neg nj) ?_ fun h' tk t S F'=>q h' tk t _ S F' (fun j nj=>if_neg nj) (if_pos rfl)
 cases sl with
 | un=>exact G.elim
 | va d=>exact G
 | ow d=>
  refine bc fun gG=>?_
  obtain⟨a,rfl,r,n,e,nl,nc,hc,no⟩:=G
  refine gG ?_
  have e0:(if i=i then addrOf (.ref a) else o i)=a:=if_pos rfl
  simp only[SlNew,if_true]
  exact⟨rfl,r,n,e,nl,nc,hc,fun j d' _ ej=>no j d' ej⟩
theorem asg_go{y:Str}{p' p:Pos}{v:PySem.Expr}{i:Nat}{own:Bool}{d:D}(H:DOk w A c false v d)(hx:c.slot y=some i)(hl:ln=none∨i≠0)(ho:own=true→∃ n,isFresh n c v=true)(hs:swapsWith v (some (.Name y p')) p.line env=pure false)
  {kc kn:Rho→R} {Q:Flow→Shared→Prop} (F:FI w c env ln hB hC N0 o N ρ s.heap) (g:d ρ (fun x=>K.ownK own x fun s=>K.setK i s ρ kn)=some z) (out:∀ f h' tk,Post w c m env ln hB hC N0 kc kn z f h'→Q f (sx s h' tk)):wpAny (model prog w.w) A (exec (.Assign [.Name y p'] v p) env) Q E s:=by
 refine wpAny_Assign_Name (H env ρ N s z _ own _ F.cd g (fun q=>⟨rfl,ho q⟩) fun x hk v h' tk k r f=>?_) hs
 replace hk:K.ownK own x (fun s=>K.setK i s ρ kn)=some z:=hk
 rw[K.ownK_eq,K.setK_eq]at hk
 refine bc fun gG=>?_
 obtain⟨N',F',_,_,G⟩:=own_new F k (own:=own) (fun _ n=>n) (fun _ n=>.inl n) (F.live.keeps k) r f
 refine gG ?_
 exact fi_new (s:=(sx s h' tk)) F' hx hl G fun h'' tk' t o' _ F'' _ _=>out .next h'' tk' ⟨o',N',_,F'',hk⟩
theorem sem_asg{y:Str}{p' p:Pos}{v:PySem.Expr}{i:Nat}{own:Bool}{d:D}(H:DOk w A c false v d)(hi:wSlot m c y=some i)(ho:own=true→∃ n,isFresh n c v=true)(hs:∀ env,swapsWith v (some (.Name y p')) p.line env=pure false):
  XOk w A c m (.Assign [.Name y p'] v p) (K.xAsg i own d):=by
 intro env ln hB hC N0 o N ρ s z kc kn Q hm F g out
 obtain⟨hx,hl⟩:=wSlot_ok hi hm
 exact asg_go H hx hl ho (hs env) F g out
theorem sem_asgC{y:Str}{p' p pc:Pos}{elt:PySem.Expr}{gens:List Comprehension}{sc:Scope}{i:Nat}{own:Bool}{d:D}(H:CompOk w A c elt gens sc pc d)(hi:wSlot m c y=some i):
  XOk w A c m (.Assign [.Name y p'] (.ListComp elt gens sc pc) p) (K.xAsg i own d):=by
 intro env ln hB hC N0 o N ρ s z kc kn Q hm F g out
 have hb:∃ b,swapsWith (.ListComp elt gens sc pc) (some (.Name y p')) p.line env=pure b:=⟨_,rfl⟩
 obtain⟨b,hb⟩:=hb
 cases b with
 | false=>
  obtain⟨hx,hl⟩:=wSlot_ok hi hm
  exact asg_go (H.d (b:=false)) hx hl (fun _=>⟨1,rfl⟩) hb F g out
 | true=>
  have g:d ρ (fun x=>K.ownK own x fun s=>K.setK i s ρ kn)=some z:=g
  obtain⟨hx,hl⟩:=wSlot_ok hi hm
  rw[exec_Assign_Name_used _ _ _ _ hb]
  refine wpAny_bind (wpAny_standAt (wpAny_bind ?_))
  show wpAny _ A (do let _ ← compSem elt gens sc pc env (some (assign (.Name y p') env))) _ _ s
  refine wpAny_bind (wpAny_mono (H env ρ N s z _ (some (assign (.Name y p') env)) (fun _ s'=>Q .next s') F.cd g ?_) (fun _ s' q=>wpAny_pure (wpAny_pure q)) fun _ _ x=>x)
  intro D C h' tk' zs hk kp nD nC hDC nsC ⟨ys,n,hD,rr⟩
  replace hk:K.ownK own (.list zs) (fun s=>K.setK i s ρ kn)=some z:=hk
  rw[K.ownK_eq,K.setK_eq]at hk
  refine bc fun gG=>?_
  obtain⟨c1,c2,c3,c4,c5⟩:=F.fresh nC
  obtain⟨d1,d2,d3,d4,d5⟩:=F.fresh nD
  obtain⟨mC,nsC⟩:=nsC
  refine gG ?_
  have lv:Live (fun a=>N a∨a=C) h':=fun a q=>q.elim (F.live.keeps kp a) fun e=>by subst e;obtain⟨ob,e,_⟩:=ns_live nsC;exact⟨ob,e⟩
  obtain⟨N',F',sub',inv',G⟩:=own_new (own:=own) (v:=.ref D) (d:=.list zs) (N1:=fun a=>N a∨a=C) F kp (fun _ n=>.inl n) (fun a n=>n.elim .inl fun e=>by subst e;exact .inr nC) lv
   (Rb.lst false (fun _ q=>q.elim d5 hDC) hD rr) (fun _ _=>⟨D,rfl,nD⟩)
  show wpAny _ A (assign (.Name y p') env (.ref D)) _ _ _
  refine wpAny_assign_Name (fi_new (s:=(sx s h' tk')) F' hx hl G fun h'' tk'' t o' S F'' ho hoi=>?_)
  have hCt:C≠t:=fun q=>by
   subst q
   rcases S.at_ with q | ⟨_,q⟩
   ·exact c2 q
   ·exact c3 _ _ q rfl
  have ns'':h''.Ns C mC:=nsC.at' fun ob e=>S.kp C ob hCt e
  refine⟨mC,ns'',fun h3 sb=>?_⟩
  have F3:=F''.drop (W:=fun a=>a=C) (h':=h3) (fun a q=>by subst q;exact sub' _ (.inr rfl)) (fun a q=>by subst q;exact c1) (fun a ob na e=>sb.extBut a ob na e) (notT_of (ns_live ns'')) (Ne.symm c2) (fun x a e q=>c3 x a e q.symm) (fun j d' e q=>by
   rcases get_set e with ⟨rfl,e2,_⟩ | ⟨nj,e2⟩
   ·rw[hoi]at q
    have q:D=C:=q
    exact hDC q
   ·rw[ho j nj]at q
    exact c4 j d' e2 q)
  exact out .next h3 tk'' ⟨o',_,_,F3,hk⟩
noncomputable def augOp:Operator→Bool
 | .Add=>true
 | .Sub=>true
 | _=>false
theorem inpl_int{op:Operator}{a b:Int}{t u:Tok}{z:V}{fr:Bool}{N:Addr→Prop}{Q:Value→Shared→Prop}(ho:augOp op=true)(hz:BinR op (.int a) (.int b) z)(o:Out w s N false z fr Q):
  wpAny (model prog w.w) A (inplaceOp op (.int a t) (.int b u)) Q E s:=by
 cases hz with
 | addI=>exact iadd_int (out_flat o (rb_int _ _ _ _) rfl)
 | sub=>exact isub_int (out_flat o (rb_int _ _ _ _) rfl)
 | _=>cases ho
theorem ld_name{env:Env}{c:Cx}(e0:Env0 env c){x:Str}{i:Nat}{v:Value}{Q:Value→Shared→Prop}(hs:c.slot x=some i)(l:Look env s.heap x v)(q:Q v s):wpAny (model prog w.w) A (loadName env x) Q E s:=by
 refine bc fun gG=>?_
 obtain⟨k,hk,_⟩:=slot_kind hs
 obtain⟨p1,p2⟩:=e0.plain x k hk
 refine gG ?_
 rcases l with ⟨a,m,n,e⟩ | ⟨a | a,cl,e,hc⟩
 ·exact wpAny_loadName_local e0.kind a n e q
 ·exact wpAny_loadName_cell e0.kind a e hc q
 ·exact wpAny_loadName_free e0.kind a e hc q p2
theorem sem_aug{y:Str}{p' p:Pos}{op:Operator}{v:PySem.Expr}{i:Nat}{d:D}(H:DOk w A c false v d)(hi:wSlot m c y=some i)(ho:augOp op=true):
  XOk w A c m (.AugAssign (.Name y p') op v p) (K.xAug i op d):=by
 intro env ln hB hC N0 o N ρ s z kc kn Q hm F g out
 refine bc fun gG=>?_
 obtain⟨hx,hl⟩:=wSlot_ok hi hm
 have g:K.cN false i ρ (fun old=>K.vInt old fun a=>d ρ fun y=>K.vInt y fun b=>K.binK op (.int a) (.int b) fun z=>K.setK i (.va z) ρ kn)=some z:=g
 obtain⟨d0,v0,g,l0,r0⟩:=name_look F.cd hx g
 obtain⟨a,rfl,g⟩:=K.vInt_some g
 obtain⟨t,rfl⟩:=rb_int_inv r0
 refine gG ?_
 refine wpAny_AugAssign_Name (ld_name F.e0 hx l0 (H.go F.cd g fun y v1 h1 t1 g k r1=>?_))
 refine bc fun gG=>?_
 obtain⟨b,rfl,g⟩:=K.vInt_some g
 obtain⟨u,rfl⟩:=rb_int_inv r1
 obtain⟨q,hq,g⟩:=K.binK_some g
 refine gG ?_
 rw[K.setK_eq]at g
 refine inpl_int (s:=(sx s h1 t1)) (N:=N) (fr:=false) ho hq fun v2 h2 t2 k2 r2 _=>?_
 exact fi_va (s:=(sx s h2 t2)) (F.keeps (k.trans k2)) hx hl r2 fun h3 t3 _ _ F3=>out .next h3 t3 ⟨o,N,_,F3,g⟩
theorem sem_drop{v:PySem.Expr}{p:Pos}{d:D}(H:DOk w A c false v d)(hs:∀ env,swapsWith v none p.line env=pure false):XOk w A c m (.Expr v p) (K.xDrop d):=by
 intro env ln hB hC N0 o N ρ s z kc kn Q hm F g out
 have g:d ρ (fun x=>K.isN x (kn ρ) none)=some z:=g
 refine wpAny_Expr (H.go F.cd g fun x v h' tk g k r=>?_) (by unfold interactive;rw[F.e0.kind];rfl) (hs env)
 rcases K.isN_some g with ⟨rfl,g⟩ | ⟨_,g⟩
 ·obtain⟨as,r,_⟩:=r
  cases r
  exact out .next h' tk ⟨o,N,ρ,F.keeps k,g⟩
 ·cases g
theorem s_append_eq:s_append=Str.ofString "append":=by decide +kernel
theorem s_extend_eq:s_extend=Str.ofString "extend":=by decide +kernel
theorem s_pop_eq:s_pop=Str.ofString "pop":=by decide +kernel
theorem lst_at{a:Addr}{l:List V}(r:Rb w N true h (.ref a) (.list l)):∃ (vs:List Value) (n:Nat),h.get? a=some (lst vs.toArray n):=by
 refine bc fun gG=>?_
 obtain⟨a',vs,n,e,g,_⟩:=rb_lst_inv r
 refine gG ?_
 cases e;exact⟨vs,n,g⟩
theorem sem_app{y:Str}{p1 ap p2 p:Pos}{v:PySem.Expr}{i:Nat}{d:D}(H:DOk w A c false v d)(hx:c.slot y=some i)(hn:noStar v=true)(hp:(ap.endLine==p2.line)=true):XOk w A c m (.Expr (.Call (.Attribute (.Name y p1) s_append ap) [v] [] p2) p) (K.xApp i d):=by
 intro env ln hB hC N0 o N ρ s z kc kn Q hm F g out
 have g:K.oN i ρ (fun c=>K.vList c fun l=>d ρ fun x=>K.okL l (K.appK l [x] fun r=>K.setK i (.ow (.list r)) ρ kn))=some z:=g
 refine bc fun gG=>?_
 obtain⟨d0,hd0,g⟩:=K.oN_some g
 obtain⟨l,rfl,g⟩:=K.vList_some g
 obtain⟨l0,r0⟩:=F.own y i _ hx hd0
 refine gG ?_
 refine wpAny_Expr ?_ (by unfold interactive;rw[F.e0.kind];rfl) rfl
 obtain⟨vs,n,e0⟩:=lst_at r0
 rw[s_append_eq]
 refine wpAny_Call_method (T:="list") (id:="list.append") rfl ?_ hp PySem.F.plainAttrs_list PySem.F.slot_list_append PySem.F.type_list_append (ld_look F.e0 hx l0 ⟨⟨_,e0,rfl⟩,fun a' q=>?_,?_⟩)
 ·rw[starEach_eq (by simp [hn])];rfl
 ·cases q;exact⟨_,e0,rfl⟩
 rw[starEach_eq (by simp [hn])]
 refine Calls.callWith_builtin rfl (Calls.evalArgs_plain (Calls.spliced_cons (H.go F.cd g fun x v1 h1 t1 g k r1=>Calls.spliced_nil ?_)))
 obtain⟨hsz,g⟩:=K.okL_some g
 rw[K.appK_eq,K.setK_eq]at g
 have F1:=F.keeps k
 refine op_append (s:=(sx s h1 t1)) (F1.ownN i _ hd0).1 (F1.own y i _ hx hd0).2 r1 hsz fun h2 M=>?_
 exact out .next h2 t1 ⟨o,N,_,F1.mut hd0 hx rfl M,g⟩
theorem sem_ext{y:Str}{p1 ap p2 p:Pos}{v:PySem.Expr}{i:Nat}{d:D}(H:DOk w A c false v d)(hx:c.slot y=some i)(hn:noStar v=true)(hp:(ap.endLine==p2.line)=true):XOk w A c m (.Expr (.Call (.Attribute (.Name y p1) s_extend ap) [v] [] p2) p) (K.xExt i d):=by
 intro env ln hB hC N0 o N ρ s z kc kn Q hm F g out
 have g:K.oN i ρ (fun c=>K.vList c fun l=>d ρ fun x=>K.vList x fun l2=>K.okL2 l l2 (K.appK l l2 fun r=>K.setK i (.ow (.list r)) ρ kn))=some z:=g
 refine bc fun gG=>?_
 obtain⟨d0,hd0,g⟩:=K.oN_some g
 obtain⟨l,rfl,g⟩:=K.vList_some g
 obtain⟨l0,r0⟩:=F.own y i _ hx hd0
 refine gG ?_
 refine wpAny_Expr ?_ (by unfold interactive;rw[F.e0.kind];rfl) rfl
 obtain⟨vs,n,e0⟩:=lst_at r0
 rw[s_extend_eq]
 refine wpAny_Call_method (T:="list") (id:="list.extend") rfl ?_ hp PySem.F.plainAttrs_list PySem.F.slot_list_extend PySem.F.type_list_extend (ld_look F.e0 hx l0 ⟨⟨_,e0,rfl⟩,fun a' q=>?_,?_⟩)
 ·rw[starEach_eq (by simp [hn])];rfl
 ·cases q;exact⟨_,e0,rfl⟩
 rw[starEach_eq (by simp [hn])]
 refine Calls.callWith_builtin rfl (Calls.evalArgs_plain (Calls.spliced_cons (H.go F.cd g fun x v1 h1 t1 g k r1=>Calls.spliced_nil ?_)))
 refine bc fun gG=>?_
 obtain⟨l2,rfl,g⟩:=K.vList_some g
 obtain⟨hsz,g⟩:=K.okL2_some g
 refine gG ?_
 rw[K.appK_eq,K.setK_eq]at g
 have F1:=F.keeps k
 refine op_extend (s:=(sx s h1 t1)) (F1.ownN i _ hd0).1 (F1.own y i _ hx hd0).2 r1 hsz fun h2 M=>?_
 exact out .next h2 t1 ⟨o,N,_,F1.mut hd0 hx rfl M,g⟩
theorem popK_some{l:List V}{k:V→List V→R}(h:K.popK l k=some z):∃ r d,l=r++[d]∧k d r=some z:=by
 unfold K.popK at h
 rw[K.revK_eq]at h
 rcases List.eq_nil_or_concat l with rfl | ⟨r,d,rfl⟩
 ·cases h
 ·rw[List.concat_eq_append]at h ⊢
  rw[List.reverse_append]at h
  have h:K.revK r.reverse (fun t=>k d t)=some z:=h
  rw[K.revK_eq,List.reverse_reverse]at h
  exact⟨r,d,rfl,h⟩
theorem sem_pop{x y:Str}{p1 ap p2 p p':Pos}{i j:Nat}(hx:c.slot x=some j)(hi:wSlot m c y=some i)(hp:(ap.endLine==p2.line)=true):XOk w A c m (.Assign [.Name y p'] (.Call (.Attribute (.Name x p1) s_pop ap) [] [] p2) p) (K.xPop i j):=by
 intro env ln hB hC N0 o N ρ s z kc kn Q hm F g out
 have g:K.oN j ρ (fun c=>K.vList c fun l=>K.okL l (K.popK l fun d r=>K.setK j (.ow (.list r)) ρ fun ρ=>K.setK i (.va d) ρ kn))=some z:=g
 refine bc fun gG=>?_
 obtain⟨hy,hl⟩:=wSlot_ok hi hm
 obtain⟨d0,hd0,g⟩:=K.oN_some g
 replace g:=K.vList_some g
 obtain⟨l,rfl,g⟩:=g
 replace g:=K.okL_some g
 obtain⟨hsz,g⟩:=g
 replace g:=popK_some g
 obtain⟨r,d,rfl,g⟩:=g
 rw[K.setK_eq,K.setK_eq]at g
 obtain⟨l0,r0⟩:=F.own x j _ hx hd0
 refine gG ?_
 refine wpAny_Assign_Name ?_ rfl
 obtain⟨vs,n,e0⟩:=lst_at r0
 rw[s_pop_eq]
 refine wpAny_Call_method (T:="list") (id:="list.pop") rfl rfl hp PySem.F.plainAttrs_list PySem.F.slot_list_pop PySem.F.type_list_pop (ld_look F.e0 hx l0 ⟨⟨_,e0,rfl⟩,fun a' q=>?_,?_⟩)
 ·cases q;exact⟨_,e0,rfl⟩
 show wpAny _ _ (callWith p2 (.builtin "list.pop") [.ref (o j)] [] []) _ E s
 refine Calls.callWith_builtin rfl (PySem.evalArgs_none (op_pop (l:=r) (F.ownN j _ hd0).1 r0 (by simp at hsz;omega) fun h1 v M rv=>?_))
 have F1:=F.mut hd0 hx rfl M
 exact fi_va (s:={ s with heap:=h1 }) F1 hy hl rv fun h2 t2 _ _ F2=>out .next h2 t2 ⟨o,N,_,F2,g⟩
end Mine
end
noncomputable section
open PySem PySem.W PyProof.Rows
namespace Mine
open K (R D DL X Orc Rec TgL)
variable{w:Pk}{A:Around}{s:Shared}{N N' N0 N1:Addr→Prop}{h h' hB hC:Heap}{c:Cx}{env:Env}{ρ:Rho}{ln:Option Addr}{o o':Nat→Addr}{z:V}{m:Md}
open scoped Classical
theorem All2.erase{α β:Type}{R:α→β→Prop}{as:List α}{bs:List β}(x:All2 R as bs)(i:Nat):All2 R (as.eraseIdx i) (bs.eraseIdx i):=by
 induction x generalizing i with
 | nil=>exact .nil
 | cons r y ih=>
  cases i with
  | zero=>exact y
  | succ i=>exact .cons r (ih i)
theorem map_erase{α β:Type}(f:α→β)(l:List α)(i:Nat):(l.eraseIdx i).map f=(l.map f).eraseIdx i:=by
 induction l generalizing i with
 | nil=>rfl
 | cons a l ih=>
  cases i with
  | zero=>rfl
  | succ i=>exact congrArg (_ :: ·) (ih i)
theorem zip_erase{α β:Type}(as:List α)(bs:List β)(i:Nat):(as.zip bs).eraseIdx i=(as.eraseIdx i).zip (bs.eraseIdx i):=by
 induction as generalizing bs i with
 | nil=>rfl
 | cons a as ih=>
  cases bs with
  | nil=>exact(List.zip_nil_right).symm
  | cons b bs=>
   cases i with
   | zero=>rfl
   | succ i=>exact congrArg (_ :: ·) (ih bs i)
theorem del_at{k:V}{ks ds:List V}{r:List (V × V)}{j:Nat}(nd:ks.Nodup)(hj:ks[j]?=some k)(hl:ks.length=ds.length)(h:delK k (ks.zip ds)=some r):r=(ks.eraseIdx j).zip (ds.eraseIdx j):=by
 induction ks generalizing ds r j with
 | nil=>cases hj
 | cons k' ks ih=>
  cases ds with
  | nil=>cases hl
  | cons d ds=>
   rw[List.nodup_cons]at nd
   rw[List.zip_cons_cons,delK]at h
   cases e:eqK k k' with
   | none=>rw[e]at h;cases h
   | some t=>
    rw[e]at h
    have s:=(eqK_spec e).2.1
    cases t with
    | true=>
     cases h
     cases j with
     | zero=>rfl
     | succ j=>exact absurd (s.mp rfl▸List.mem_of_getElem? (l:=ks) (i:=j) hj) nd.1
    | false=>
     obtain⟨r',hr,rfl⟩:=Option.map_eq_some_iff.mp h
     cases j with
     | zero=>cases s.mpr (Option.some.inj hj).symm
     | succ j=>rw[ih nd.2 hj (Nat.succ.inj hl) hr];rfl
theorem found_off{k:V}{ps:List (V × V)}{f:Option V}(x:Found k ps f)(h:k∉ps.map (·.1)):f=none:=by
 cases x with
 | none=>rfl
 | some q=>exact absurd (List.mem_map.mpr ⟨_,List.mem_of_getElem? q,rfl⟩) h
section
variable{a:Addr}{vk dv:Value}
theorem op_popD{ts:List V}{d:V}{ps:List (V × V)}{f:Option V}{Q:Value→Shared→Prop}(hu:A.units + 80 < cLine)(hsys:(a==sysModules)=false)(hN:N a)(ro:Rb w N true s.heap (.ref a) (.dict ps))(rk:Rb w N false s.heap vk (.tuple ts))(rd:Rb w N false s.heap dv d)
  (hsz:ps.length≤1000000) (hf:findK (.tuple ts) ps=some f)
  (q0:f=none→∀ tk,Q dv { s with toks:=tk })
  (q1:∀ v,f=some v→∀ h' tk u r,delK (.tuple ts) ps=some r→Mut w N a s.heap (.dict r) h'→Rb w N false h' u v→Q u (sx s h' tk)) (hd:∀ v,f=some v→∃ r,delK (.tuple ts) ps=some r):
  wpAny (model prog w.w) A (call (.builtin "dict.pop") [.ref a,vk,dv]) Q E s:=by
 refine bc fun gG=>?_
 obtain⟨a',es,n,ks,ds,e1,rfl,e,ko,hl,rl,_⟩:=rb_dict_inv ro
 refine gG ?_
 cases e1
 have hlk:=dict_len ko
 have hsz':es.length≤1000000:=by rw[List.length_zip,← hl,Nat.min_self]at hsz;omega
 have hx:=found hf
 refine bc fun gG=>?_
 obtain⟨x,nd⟩:=ko_tup ko (hx.2.kin hl)
 obtain⟨xs,hdo,hk',hv'⟩:=dictOf_tup e x nd
 obtain⟨cc,rfl,tk⟩:=tkey hx.1 rk
 refine gG ?_
 have hT:s.TypeIs (.ref a) "dict":=⟨_,e,rfl⟩
 refine wpAny_call_entry PySem.F.slot_dict_pop hT PySem.F.entry_dict_pop ?_ (PySem.F.args_dict_pop_3 _ _ _)
 unfold Builtin.«dict.pop»
 refine wpAny_bind ?_
 unfold Builtin.Dict.keyAndDefault
 refine wpAny_bind (wpAny_notOrdered_dict hT ?_)
 show wpAny _ _ (pure (a,Value.ref cc,some dv)) _ _ s
 refine wpAny_pure ?_
 simp only[show(keyPart (Value.ref cc)).isSome=false from rfl,Bool.false_eq_true,if_false]
 refine wpAny_bind (wpAny_dictEntries e rfl (wpAny_bind (wpAny_pure ?_)))
 cases hem:es.toArray.isEmpty with
 | true=>
  simp only[if_true]
  have f0:f=none:=found_off hx.2 (by rw[fst_zip hl,List.eq_nil_of_length_eq_zero (hlk.symm.trans (congrArg List.length (List.isEmpty_iff.mp (by simpa using hem):es=[])))];exact List.not_mem_nil)
  refine wpAny_bind (wpAny_rule (wpAny_bind (wpAny_pure ?_)))
  simp only[Option.isNone_none,if_true]
  unfold Builtin.Dict.missedRemoval
  simp only[hsys,Bool.false_eq_true,if_false]
  refine wpAny_bind (wpAny_pure ?_)
  exact wpAny_bind (wpAny_rule (wpAny_pure ⟨dv,rfl,q0 f0 s.toks⟩))
 | false=>
  simp only[Bool.false_eq_true,if_false]
  refine wpAny_bind ?_
  unfold Builtin.Dict.takeOut
  try with_reducible refine wpAny_holding ?_
  refine bc fun gG=>?_
  obtain⟨ob,es2,ep2,ho2,hc2,hd2,he2,his2,hn2⟩:=id hdo
  refine gG ?_
  rw[e]at ho2
  cases ho2
  cases hd2
  refine wpAny_bind ((tupKind w).pyHash (show A.units + 1 + 70 < cLine by omega) tk (wpAny_bind (wpAny_dictFind_heap (knd:=tupKind w) (k:=.tuple ts) (s:={ s with toks:=s.toks + (tupKind w).draws (.tuple ts) }) (show A.units + 1 + 70 < cLine by omega) tk e rfl he2 his2 hn2 ?_ ?_)))
  ·intro hno
   have f0:f=none:=found_off hx.2 (by
    rw[fst_zip hl,← hk']
    intro m
    obtain⟨y,hy,e'⟩:=List.mem_map.mp m
    obtain⟨j,hj⟩:=List.getElem?_of_mem hy
    exact hno j y.2 (by rw[hj,← e']))
   refine wpAny_pure ?_
   simp only[Option.isNone_none,if_true]
   unfold Builtin.Dict.missedRemoval
   simp only[hsys,Bool.false_eq_true,if_false]
   refine wpAny_bind (wpAny_pure ?_)
   exact wpAny_bind (wpAny_rule (wpAny_pure ⟨dv,rfl,q0 f0 _⟩))
  ·intro j p hj
   have hkj:ks[j]?=some (.tuple ts):=by rw[← hk',List.getElem?_map,hj];rfl
   have hen:es[j]?=some (entryOfKey (tupKind w) (.tuple ts,p)):=by
    have:=congrArg (fun l:List DictEntry=>l[j]?) he2
    simpa [List.getElem?_map,hj] using this
   cases hx.2 with
   | none h1 _=>exact absurd (List.mem_of_getElem? hkj) (fst_zip hl▸h1)
   | @some j2 v h1=>
   obtain⟨r,hr⟩:=hd v rfl
   have hdj:=(zip_mem h1).2
   obtain rfl:j2=j:=(List.getElem?_inj (List.getElem?_eq_some_iff.mp (zip_mem h1).1).1 nd).mp ((zip_mem h1).1.trans hkj.symm)
   have er:=del_at nd hkj hl hr
   refine wpAny_bind (wpAny_dictEntries (s:={ s with toks:=s.toks + (tupKind w).draws (.tuple ts) }) e rfl ?_)
   rw[show es.toArray[j2]?=some (entryOfKey (tupKind w) (.tuple ts,p)) by simpa using hen]
   refine wpAny_bind (wpAny_updateDictKeys (hz:=by rw[List.size_toArray];exact Nat.le_trans hsz' (by decide)) (s:={ s with toks:=s.toks + (tupKind w).draws (.tuple ts) }) e rfl ?_)
   refine wpAny_pure ?_
   simp only[Option.isNone_some,Bool.false_eq_true,if_false]
   have hval:(es.map (·.val))[j2]?=some p.2:=by rw[List.getElem?_map,hen];rfl
   obtain⟨v',hv',rv⟩:=all2_at rl hval
   rw[hdj]at hv'
   cases hv'
   have sb:Heap.SameBut a s.heap (s.heap.update a (Obj.mapDictKeys fun x=>x.eraseIdxIfInBounds j2)):=Heap.SameBut.update ..
   have kb:KpB (fun b=>b=a) s.heap (s.heap.update a (Obj.mapDictKeys fun x=>x.eraseIdxIfInBounds j2)):=fun c o nc eo=>sb.extBut c o nc eo
   have e3:(s.heap.update a (Obj.mapDictKeys fun x=>x.eraseIdxIfInBounds j2)).get? a=some (dct (es.eraseIdx j2).toArray (n + 1)):=by
    rw[Heap.get?_update_self _ e rfl]
    show some (dct (es.toArray.eraseIdxIfInBounds j2) (n + 1))=_
    rw[List.eraseIdxIfInBounds_toArray]
   have keep:∀ {vs:List Value} {xs:List V},RbL w N false s.heap vs xs→RbL w N false (s.heap.update a (Obj.mapDictKeys fun x=>x.eraseIdxIfInBounds j2)) vs xs:=fun r=>RbL.but (W:=fun b=>b=a) (fun b q=>q▸hN) kb (not_tup_dict e) r
   refine wpAny_bind (wpAny_letGo (wpAny_pure ⟨p.2,rfl,q1 _ rfl _ _ p.2 _ hr ⟨sb,?_⟩ (Rb.but (W:=fun b=>b=a) (fun b q=>q▸hN) kb (not_tup_dict e) rv)⟩))
   rw[er]
   have nd':(ks.eraseIdx j2).Nodup:=nd.sublist (List.eraseIdx_sublist ks j2)
   have x':=(x.erase j2)
   refine rb_dict_mk e3 (KeysOk.but kb (not_tup_dict e) (.kT x' nd')) (by rw[List.length_eraseIdx,List.length_eraseIdx,hl]) ?_
   rw[map_erase]
   exact keep (rl.erase j2)
end
theorem sem_popD{x y:Str}{p1 ap p2 p p':Pos}{e1 e2:PySem.Expr}{d1 d2:D}{i j:Nat}(hu:A.units + 80 < cLine)(H1:DOk w A c false e1 d1)(H2:DOk w A c false e2 d2)(hns:[e1,e2].all noStar=true)(hx:c.slot x=some j)(hi:wSlot m c y=some i)(hp:(ap.endLine==p2.line)=true):
  XOk w A c m (.Assign [.Name y p'] (.Call (.Attribute (.Name x p1) s_pop ap) [e1,e2] [] p2) p) (K.xPopD i j d1 d2):=by
 intro env ln hB hC N0 o N ρ s z kc kn Q hm F g out
 have g:K.oN j ρ (fun c=>K.vDict c fun ps=>d1 ρ fun y=>d2 ρ fun d=>K.vTup y fun _=>K.okL ps (K.findD y ps (fun v=>K.delD y ps fun r=>K.setK j (.ow (.dict r)) ρ fun ρ=>K.setK i (.va v) ρ kn) (K.setK i (.va d) ρ kn)))=some z:=g
 refine bc fun gG=>?_
 obtain⟨hy,hl⟩:=wSlot_ok hi hm
 obtain⟨d0,hd0,g⟩:=K.oN_some g
 replace g:=K.vDict_some g
 obtain⟨ps,rfl,g⟩:=g
 obtain⟨l0,r0⟩:=F.own x j _ hx hd0
 refine gG ?_
 refine wpAny_Assign_Name ?_ rfl
 have hsys:(o j==sysModules)=false:=by
  obtain⟨as,r,_⟩:=r0
  refine beq_eq_false_iff_ne.mpr fun q=>?_
  rw[q]at r
  exact F.gi.noSys _ _ r
 refine bc fun gG=>?_
 obtain⟨a',es,n,ks,ds,ea,_,e0,_⟩:=rb_dict_inv r0
 refine gG ?_
 cases ea
 rw[s_pop_eq]
 refine wpAny_Call_method (T:="dict") (id:="dict.pop") rfl ?_ hp PySem.F.plainAttrs_dict PySem.F.slot_dict_pop PySem.F.type_dict_pop (ld_look F.e0 hx l0 ⟨⟨_,e0,rfl⟩,fun a' q=>?_,?_⟩)
 ·rw[starEach_eq hns];rfl
 ·cases q;exact⟨_,e0,rfl⟩
 rw[starEach_eq hns]
 refine Calls.callWith_builtin rfl (Calls.evalArgs_plain (Calls.spliced_cons (H1.go F.cd g fun kv v1 h1 t1 g k1 r1=>Calls.spliced_cons (H2.go (F.keeps k1).cd g fun dv v2 h2 t2 g k2 r2=>Calls.spliced_nil ?_))))
 refine bc fun gG=>?_
 obtain⟨ts,rfl,g⟩:=K.vTup_some g
 replace g:=K.okL_some g
 obtain⟨hsz,g⟩:=g
 replace g:=K.findD_some g
 obtain⟨f,hf,g⟩:=g
 refine gG ?_
 have F2:=(F.keeps k1).keeps k2
 refine op_popD (s:=(sx s h2 t2)) (f:=f) hu hsys (F2.ownN j _ hd0).1 (F2.own x j _ hx hd0).2 (r1.keeps k2) r2 hsz hf ?_ ?_ ?_
 ·rintro rfl tk
  rw[K.setK_eq]at g
  exact fi_va (s:=(sx s h2 tk)) F2 hy hl r2 fun h3 t3 _ _ F3=>out .next h3 t3 ⟨o,N,_,F3,g⟩
 ·rintro v rfl h3 tk u r hr M rv
  replace g:=K.delD_some g
  obtain⟨r',hr',g⟩:=g
  rw[hr]at hr'
  cases hr'
  rw[K.setK_eq,K.setK_eq]at g
  have F3:=F2.mut hd0 hx rfl M
  exact fi_va (s:=(sx s h3 tk)) F3 hy hl rv fun h4 t4 _ _ F4=>out .next h4 t4 ⟨o,N,_,F4,g⟩
 ·rintro v rfl
  replace g:=K.delD_some g
  obtain⟨r',hr',_⟩:=g
  exact⟨r',hr'⟩
end Mine
end
noncomputable section
open PySem PySem.W PyProof.Rows
namespace Mine
open K (R D DL X Orc Rec TgL)
variable{w:Pk}{A:Around}{s:Shared}{N N' N0 N1:Addr→Prop}{h h' hB hC:Heap}{c:Cx}{env:Env}{ρ:Rho}{ln:Option Addr}{o o':Nat→Addr}{z:V}{m:Md}
theorem ifB_int{i:Int}{f:Nat→R}(h:@Int.rec (fun _=>R) f (fun _=>none) i=some z):∃ n:Nat,i=Int.ofNat n∧f n=some z:=by
 cases i with
 | ofNat n=>exact⟨n,rfl,h⟩
 | negSucc n=>cases h
theorem op_setItem{a:Addr}{cnt y d:V}{vk v:Value}{k:V→R}{Q:Unit→Shared→Prop}(hu:A.units + 80 < cLine)(h:K.setV' cnt y d k=some z)(hN:N a)(ro:Rb w N true s.heap (.ref a) cnt)(rk:Rb w N false s.heap vk y)(rv:Rb w N false s.heap v d)
  (q:∀ c' h' tk,k c'=some z→isCont c'=true→Mut w N a s.heap c' h'→Q () (sx s h' tk)):wpAny (model prog w.w) A (setItem (.ref a) vk v) Q E s:=by
 cases cnt with
 | list l=>
  have h:K.vInt y (fun i=>@Int.rec (fun _=>R) (fun n=>K.ifB (Nat.blt n (K.lenK l)) (K.okL l (K.setK n d l fun r=>k (.list r))) none) (fun _=>none) i)=some z:=h
  refine bc fun gG=>?_
  obtain⟨i,rfl,h⟩:=K.vInt_some h
  obtain⟨n,rfl,h⟩:=ifB_int h
  obtain⟨hb,h⟩:=K.ifB_then h
  obtain⟨hs,h⟩:=K.okL_some h
  rw[K.setK_eq]at h
  obtain⟨t,rfl⟩:=rb_int_inv rk
  refine gG ?_
  rw[K.lenK_eq]at hb
  have hb:n < l.length:=by simpa [Nat.blt_eq] using hb
  exact op_setItemL (k:=Int.ofNat n) (Int.natCast_nonneg n) hN ro rv hb hs fun h' M=>q _ h' s.toks h rfl M
 | dict ps=>
  replace h:K.okL ps (K.putD y d ps fun r=>k (.dict r))=some z:=h
  replace h:=K.okL_some h
  refine bc fun gG=>?_
  obtain⟨hs,h⟩:=h
  replace h:=K.putD_some h
  obtain⟨r,hr,h⟩:=h
  obtain⟨a',es,n,ks,ds,ea,rfl,e,ko,hl,rl,_⟩:=rb_dict_inv ro
  refine gG ?_
  cases ea
  refine op_setItemD hu hN e ko hl rl hr (by rw[List.length_zip,← hl,Nat.min_self]at hs;exact hs) rk rv fun h' tk P=>q _ h' tk h rfl ⟨P.sb,P.rb⟩
 | _=>cases h
theorem swaps_sub{v ob i:PySem.Expr}{p:Pos}{l:Nat}:swapsWith v (some (.Subscript ob i p)) l env=pure false:=by cases v <;> rfl
theorem sub_store{x:Str}{px:Pos}{ke:PySem.Expr}{i:Nat}{d1:D}{v:Value}{d:V}{kn:Rho→R}{Q:Unit→Shared→Prop}(hu:A.units + 80 < cLine)(H1:DOk w A c false ke d1)(hx:c.slot x=some i)(F:FI w c env ln hB hC N0 o N ρ s.heap)(rv:Rb w N false s.heap v d)
  (g:K.oN i ρ (fun c=>d1 ρ fun y=>K.setV' c y d fun c=>K.setK i (.ow c) ρ kn)=some z) (q:∀ h' tk ρ',FI w c env ln hB hC N0 o N ρ' h'→KpB (fun a=>a=o i) s.heap h'→NoT (fun a=>a=o i) s.heap→N (o i)→kn ρ'=some z→Q () (sx s h' tk)):
  wpAny (model prog w.w) A (eval (.Name x px) env) (fun ov s₁=>wpAny (model prog w.w) A (eval ke env) (fun iv s₂=>wpAny (model prog w.w) A (setItem ov iv v) Q E s₂) E s₁) E s:=by
 refine bc fun gG=>?_
 obtain⟨d0,hd0,g⟩:=K.oN_some g
 obtain⟨l0,r0⟩:=F.own x i _ hx hd0
 refine gG ?_
 refine ld_look F.e0 hx l0 (H1.go F.cd g fun y vk h1 t1 g k1 rk=>?_)
 have F1:=F.keeps k1
 refine op_setItem (s:=(sx s h1 t1)) hu g (F1.ownN i _ hd0).1 (F1.own x i _ hx hd0).2 rk (rv.keeps k1) fun c' h2 tk g hc M=>?_
 rw[K.setK_eq]at g
 exact q h2 tk _ (F1.mut hd0 hx hc M) (fun a ob na e=>M.kpb a ob na (k1 _ _ e)) (notT_of (F.ownT hd0)) (F.ownN i _ hd0).1 g
theorem sem_setI{x:Str}{px ps p:Pos}{ke v:PySem.Expr}{i:Nat}{d1 d2:D}(hu:A.units + 80 < cLine)(H1:DOk w A c false ke d1)(H2:DOk w A c false v d2)(hx:c.slot x=some i):
  XOk w A c m (.Assign [.Subscript (.Name x px) ke ps] v p) (K.xSetI i d1 d2):=by
 intro env ln hB hC N0 o N ρ s z kc kn Q hm F g out
 have g:d2 ρ (fun d=>K.oN i ρ fun c=>d1 ρ fun y=>K.setV' c y d fun c=>K.setK i (.ow c) ρ kn)=some z:=g
 refine wpAny_Assign_Subscript (H2.go F.cd g fun d vv h1 t1 g k1 rv=>?_) swaps_sub
 exact sub_store (s:=(sx s h1 t1)) hu H1 hx (F.keeps k1) rv g fun h2 t2 ρ' F2 _ _ _ g=>out .next h2 t2 ⟨o,N,_,F2,g⟩
theorem sem_augI{x y:Str}{px py ps p:Pos}{op:Operator}{v:PySem.Expr}{i:Nat}{d1 d2:D}(hu:A.units + 80 < cLine)(H1:DOk w A c false (.Name y py) d1)(H2:DOk w A c false v d2)(hx:c.slot x=some i)(ho:augOp op=true):
  XOk w A c m (.AugAssign (.Subscript (.Name x px) (.Name y py) ps) op v p) (K.xAugI i d1 op d2):=by
 intro env ln hB hC N0 o N ρ s z kc kn Q hm F g out
 have g:K.oN i ρ (fun c=>K.vList c fun l=>d1 ρ fun y=>K.vInt y fun j=>K.atK l j fun old=>K.vInt old fun old=>d2 ρ fun d=>K.vInt d fun d=>K.binK op (.int old) (.int d) fun z=>K.setV' (.list l) y z fun c=>K.setK i (.ow c) ρ kn)=some z:=g
 refine bc fun gG=>?_
 obtain⟨d0,hd0,g⟩:=K.oN_some g
 replace g:=K.vList_some g
 obtain⟨l,rfl,g⟩:=g
 obtain⟨l0,r0⟩:=F.own x i _ hx hd0
 refine gG ?_
 refine wpAny_AugAssign_Subscript_any (ld_look F.e0 hx l0 (H1.go F.cd g fun yv vk h1 t1 g k1 rk=>?_)) (fun _ _ _=>rfl)
 replace g:=K.vInt_some g
 refine bc fun gG=>?_
 obtain⟨j,rfl,g⟩:=g
 replace g:=K.atK_some g
 obtain⟨old,hold,g⟩:=g
 replace g:=K.vInt_some g
 obtain⟨a,rfl,g⟩:=g
 have F1:=F.keeps k1
 obtain⟨_,vs,n,ea,e,q1,_⟩:=rb_lst_inv (F1.own x i _ hx hd0).2
 refine gG ?_
 cases ea
 refine bc fun gG=>?_
 obtain⟨t,rfl⟩:=rb_int_inv rk
 obtain⟨hk,jj,v1,hj,hv1,rv1⟩:=at_of q1 hold
 obtain⟨u,rfl⟩:=rb_int_inv rv1
 refine gG ?_
 refine get_list (s:=(sx s h1 t1)) (isList_of e) hk hj hv1 (H2.go F1.cd g fun d v2 h2 t2 g k2 r2=>?_)
 refine bc fun gG=>?_
 obtain⟨b,rfl,g⟩:=K.vInt_some g
 obtain⟨u2,rfl⟩:=rb_int_inv r2
 replace g:=K.binK_some g
 obtain⟨q,hq,g⟩:=g
 refine gG ?_
 have F2:=F1.keeps k2
 refine inpl_int (s:=(sx s h2 t2)) (N:=N) (fr:=false) ho hq fun v3 h3 t3 k3 r3 _=>?_
 have F3:=F2.keeps k3
 refine op_setItem (s:=(sx s h3 t3)) hu g (F3.ownN i _ hd0).1 (F3.own x i _ hx hd0).2 (rb_int _ _ _ _) r3 fun c' h4 tk g hc M=>?_
 rw[K.setK_eq]at g
 exact out .next h4 tk ⟨o,N,_,F3.mut hd0 hx hc M,g⟩
theorem NewV.keeps{v:Value}{sl:Sl}(k:Kp h h')(G:NewV w env hC ρ N h o v sl):NewV w env hC ρ N h' o v sl:=by
 cases sl with
 | un=>exact G
 | va d=>exact Rb.keeps k G
 | ow d=>obtain⟨a,e,r,q⟩:=G;exact⟨a,e,r.keeps k,q⟩
theorem NewV.more{v:Value}{sl:Sl}(sub:∀ a,N a→N' a)(i:∀ a,N' a→N a∨h.get? a=none)(G:NewV w env hC ρ N h o v sl):NewV w env hC ρ N' h o v sl:=by
 cases sl with
 | un=>exact G
 | va d=>exact Rb.more i G
 | ow d=>obtain⟨a,e,r,na,q⟩:=G;exact⟨a,e,r.more i,sub a na,q⟩
structure Job where
 x:Str
 i:Nat
 v:Value
 sl:Sl
noncomputable def Dis(p q:Job):Prop:=∀ d d',p.sl=.ow d→q.sl=.ow d'→p.v≠q.v
theorem Dis.symm{p q:Job}(x:Dis p q):Dis q p:=fun d d' a b e=>x d' d b a e.symm
noncomputable def setAll(js:List Job)(ρ:Rho):Rho:=js.foldl (fun ρ j=>ρ.set j.i j.sl) ρ
theorem store_jobs:∀ (js:List Job) (ρ:Rho) (o:Nat→Addr) (s:Shared) (Q:Shared→Prop),FI w c env ln hB hC N0 o N ρ s.heap→(∀ j∈js,c.slot j.x=some j.i∧(ln=none∨j.i≠0)∧NewV w env hC ρ N s.heap o j.v j.sl)→js.Pairwise Dis→
  (∀ h' tk o',FI w c env ln hB hC N0 o' N (setAll js ρ) h'→Q (sx s h' tk))→SeqSt w A env (js.map (·.x)) (js.map (·.v)) Q s:=by
 intro js
 induction js with
 | nil=>intro ρ o s Q F _ _ q;exact q s.heap s.toks o F
 | cons j js ih=>
  intro ρ o s Q F H dd q
  obtain⟨hx,hl,G⟩:=H j (.head _)
  rw[List.pairwise_cons]at dd
  show wpAny _ _ (storeName env j.x j.v) _ _ _
  refine fi_new F hx hl G fun h' tk t o' S F' ho hoi=>?_
  have ht:N t:=by
   rcases S.at_ with rfl | ⟨_,e⟩
   ·exact F.loc.1
   ·exact(F.cells _ _ e).1
  refine ih _ o' (sx s h' tk) Q F' (fun p mp=>?_) dd.2 fun h'' tk' o'' F''=>q h'' tk' o'' F''
  obtain⟨px,pl,PG⟩:=H p (.tail _ mp)
  refine⟨px,pl,?_⟩
  cases hsl:p.sl with
  | un=>rw[hsl]at PG;exact PG.elim
  | va d=>
   rw[hsl]at PG
   exact Rb.but (W:=fun b=>b=t) (fun b q=>q▸ht) S.kp S.nt PG
  | ow d=>
   rw[hsl]at PG
   refine bc fun gG=>?_
   obtain⟨a,e,r,na,ea,nl,nc,hc,no⟩:=PG
   refine gG ?_
   refine⟨a,e,?_,na,ea,nl,nc,hc,fun k d' hk=>?_⟩
   ·rw[e]at r ⊢
    refine r.butT ht S.kp S.nt fun q=>?_
    have q:=Value.ref.inj q
    rcases S.at_ with u | ⟨_,u⟩
    ·exact nl (q.trans u)
    ·exact nc _ _ u q
   ·rcases get_set hk with ⟨rfl,e2,_⟩ | ⟨nk,hk⟩
    ·rw[hoi]
     intro q
     rw[← e2]at G
     obtain⟨a',e',_⟩:=G
     rw[e']at q
     have q:a'=a:=q
     exact dd.1 p mp d' d e2.symm hsl (by rw[e',e,q])
    ·rw[ho k nk]
     exact no k d' hk
theorem foldl_comm:∀ (js:List Job) (ρ:Rho) (i:Nat) (a:Sl),(∀ j∈js,j.i≠i)→(setAll js ρ).set i a=setAll js (ρ.set i a)
 | [],_,_,_,_=>rfl
 | j::js,ρ,i,a,h=>by
  show(setAll js (ρ.set j.i j.sl)).set i a=setAll js ((ρ.set i a).set j.i j.sl)
  rw[foldl_comm js _ i a fun p m=>h p (.tail _ m),List.set_comm _ _ (h j (.head _))]
theorem setAll_rev:∀ (js:List Job) (ρ:Rho),(js.map (·.i)).Nodup→setAll js.reverse ρ=setAll js ρ
 | [],_,_=>rfl
 | j::js,ρ,nd=>by
  rw[List.map_cons,List.nodup_cons]at nd
  rw[List.reverse_cons]
  show List.foldl _ ρ (js.reverse++[j])=_
  rw[List.foldl_append]
  show(setAll js.reverse ρ).set j.i j.sl=setAll js (ρ.set j.i j.sl)
  rw[setAll_rev js ρ nd.2]
  exact foldl_comm js ρ j.i j.sl fun p m q=>nd.1 (List.mem_map.mpr ⟨p,m,q⟩)
theorem list_own{r:Rec}(H:∀ e,DOk w A c false e (r c false e)):
  ∀ (es:List PySem.Expr) (os:List Bool) (N:Addr→Prop) (s:Shared) (k:List V→R) (Q:List Value→Shared→Prop),es.length=os.length→(∀ (i:Nat) (e:PySem.Expr),es[i]?=some e→os[i]?=some true→∃ n,isFresh n c e=true)→FI w c env ln hB hC N0 o N ρ s.heap→K.lD (es.map (r c false)) ρ k=some z→
   (∀ xs vs h' tk N',xs.length=es.length→vs.length=es.length→k xs=some z→Kp s.heap h'→(∀ a,N a→N' a)→(∀ a,N' a→N a∨s.heap.get? a=none)→FI w c env ln hB hC N0 o N' ρ h'→(∀ (i:Nat) v x ow,vs[i]?=some v→xs[i]?=some x→os[i]?=some ow→NewV w env hC ρ N' h' o v (ownS ow x))→
    (∀ (i j:Nat) v v' x x' ow ow' d d',i < j→vs[i]?=some v→xs[i]?=some x→os[i]?=some ow→vs[j]?=some v'→xs[j]?=some x'→os[j]?=some ow'→ownS ow x=.ow d→ownS ow' x'=.ow d'→v≠v')→
    (∀ (i:Nat) v x ow d,vs[i]?=some v→xs[i]?=some x→os[i]?=some ow→ownS ow x=.ow d→∃ a,v=.ref a∧s.heap.get? a=none)→Q vs (sx s h' tk))→wpAny (model prog w.w) A (spliced (es.map fun e=>(false,eval e env))) Q E s:=by
 intro es
 induction es with
 | nil=>intro os N s k Q hl ho F h f;exact Calls.spliced_nil (f [] [] s.heap s.toks N rfl rfl h (Kp.refl _) (fun _ n=>n) (fun _ n=>.inl n) F (fun _ _ _ _ e=>noP e) (fun _ _ _ _ _ _ _ _ _ _ _ e=>noP e) (fun _ _ _ _ _ e=>noP e))
 | cons e es ih=>
  intro os N s k Q hl ho F h f
  cases os with
  | nil=>cases hl
  | cons ow os=>
  have h:r c false e ρ (fun x=>K.lD (es.map (r c false)) ρ fun xs=>k (x::xs))=some z:=h
  refine Calls.spliced_cons (H e env ρ N s z _ ow _ F.cd h (fun q=>⟨rfl,ho 0 e rfl (by rw[q];rfl)⟩) fun x h1 v h₁ t₁ k₁ r₁ fr=>?_)
  replace h1:K.lD (es.map (r c false)) ρ (fun xs=>k (x::xs))=some z:=h1
  refine bc fun gG=>?_
  obtain⟨N1,F1,sub1,inv1,G1⟩:=own_new F k₁ (own:=ow) (fun _ n=>n) (fun _ n=>.inl n) (F.live.keeps k₁) r₁ fr
  refine gG ?_
  have i1:∀ a,N1 a→N a∨s.heap.get? a=none:=fun a n=>(inv1 a n).elim .inl fun ⟨_,_,e⟩=>.inr e
  refine ih os N1 (sx s h₁ t₁) _ _ (Nat.succ.inj hl) (fun i e' a b=>ho (i + 1) e' a b) F1 h1 fun xs vs h₂ t₂ N2 l1 l2 h2 k₂ sub2 i2 F2 G2 D2 B2=>?_
  have v1:∀ d,ownS ow x=.ow d→∃ a,v=.ref a∧s.heap.get? a=none∧∃ ob,h₁.get? a=some ob:=fun d e2=>by
   have hc:ow=true∧isCont x=true:=by
    by_cases q:(ow&&isCont x)=true
    ·rw[Bool.and_eq_true]at q;exact q
    ·cases (if_neg q).symm.trans e2
   refine bc fun gG=>?_
   obtain⟨a,ea,na⟩:=fr hc.1 hc.2
   subst ea
   obtain⟨ob,la,_⟩:=own_notT hc.2 r₁
   refine gG ?_
   exact⟨a,rfl,na,ob,la⟩
  have B2':∀ (i:Nat) v x ow d,vs[i]?=some v→xs[i]?=some x→os[i]?=some ow→ownS ow x=.ow d→∃ a,v=.ref a∧h₁.get? a=none:=B2
  refine f (x::xs) (v::vs) h₂ t₂ N2 (congrArg Nat.succ l1) (congrArg Nat.succ l2) h2 (k₁.trans k₂) (fun a n=>sub2 a (sub1 a n)) (fun a n=>?_) F2 ?_ ?_ ?_
  ·rcases i2 a n with n | n
   ·exact i1 a n
   ·right
    cases q:s.heap.get? a with
    | none=>rfl
    | some ob=>have n:h₁.get? a=none:=n;rw[k₁ _ _ q]at n;cases n
  ·intro i v' x' ow' e1 e2 e3
   cases i with
   | succ i=>exact G2 i v' x' ow' e1 e2 e3
   | zero=>
    cases e1;cases e2;cases e3
    exact NewV.keeps k₂ (NewV.more sub2 i2 G1)
  ·intro i j u u' y y' w1 w2 d d' hij e1 e2 e3 e4 e5 e6 e7 e8
   cases j with
   | zero=>omega
   | succ j=>
    cases i with
    | succ i=>exact D2 i j u u' y y' w1 w2 d d' (by omega) e1 e2 e3 e4 e5 e6 e7 e8
    | zero=>
     cases e1;cases e2;cases e3
     refine bc fun gG=>?_
     obtain⟨a,ea,_,ob,la⟩:=v1 d e7
     obtain⟨a',ea',na'⟩:=B2' j u' y' w2 d' e4 e5 e6 e8
     refine gG ?_
     rintro rfl
     rw[ea]at ea'
     cases ea'
     rw[la]at na';cases na'
  ·intro i u y w1 d e1 e2 e3 e4
   cases i with
   | zero=>
    cases e1;cases e2;cases e3
    refine bc fun gG=>?_
    obtain⟨a,ea,na,_⟩:=v1 d e4
    refine gG ?_
    exact⟨a,ea,na⟩
   | succ i=>
    obtain⟨a,ea,na⟩:=B2' i u y w1 d e1 e2 e3 e4
    refine⟨a,ea,?_⟩
    cases q:s.heap.get? a with
    | none=>rfl
    | some ob=>rw[k₁ _ _ q]at na;cases na
section
set_option tactic.hygienic true
noncomputable def gnms:List (Nat × Bool)→TgL
 | []=>K.gnil
 | p::l=>K.gnm p.1 p.2 (gnms l)
noncomputable def gits:List (Nat × D)→TgL
 | []=>K.gnil
 | p::l=>K.git p.1 p.2 (gits l)
inductive Jobs:List Str→List Nat→List Bool→List Value→List V→List Job→Prop
 | nil:Jobs [] [] [] [] [] []
 | cons{x:Str}{xs:List Str}{i:Nat}{is:List Nat}{b:Bool}{bs:List Bool}{v:Value}{vs:List Value}{d:V}{ds:List V}{js:List Job}(J:Jobs xs is bs vs ds js):Jobs (x::xs) (i::is) (b::bs) (v::vs) (d::ds) (⟨x,i,v,ownS b d⟩::js)
section
variable{xs:List Str}{is:List Nat}{bs:List Bool}{vs:List Value}{ds:List V}{js:List Job}
theorem jobs_ex(h1:is.length=xs.length)(h2:bs.length=xs.length)(h3:vs.length=xs.length)(h4:ds.length=xs.length):∃ js,Jobs xs is bs vs ds js:=by
 induction xs generalizing is bs vs ds with
 | nil=>
  rw[List.eq_nil_of_length_eq_zero h1,List.eq_nil_of_length_eq_zero h2,List.eq_nil_of_length_eq_zero h3,List.eq_nil_of_length_eq_zero h4]
  exact⟨[],.nil⟩
 | cons x xs ih=>
  obtain⟨i,is,rfl⟩:=List.exists_cons_of_length_eq_add_one h1
  obtain⟨b,bs,rfl⟩:=List.exists_cons_of_length_eq_add_one h2
  obtain⟨v,vs,rfl⟩:=List.exists_cons_of_length_eq_add_one h3
  obtain⟨d,ds,rfl⟩:=List.exists_cons_of_length_eq_add_one h4
  obtain⟨js,J⟩:=ih (Nat.succ.inj h1) (Nat.succ.inj h2) (Nat.succ.inj h3) (Nat.succ.inj h4)
  exact⟨_,.cons J⟩
theorem Jobs.get(J:Jobs xs is bs vs ds js){k:Nat}{j:Job}(h:js[k]?=some j):xs[k]?=some j.x∧is[k]?=some j.i∧vs[k]?=some j.v∧∃ b d,bs[k]?=some b∧ds[k]?=some d∧j.sl=ownS b d:=by
 induction J generalizing k with
 | nil=>cases h
 | cons _ ih=>
  cases k with
  | zero=>cases h;exact⟨rfl,rfl,rfl,_,_,rfl,rfl,rfl⟩
  | succ k=>exact ih h
theorem Jobs.maps(J:Jobs xs is bs vs ds js):js.map (·.x)=xs∧js.map (·.v)=vs∧js.map (·.i)=is:=by
 induction J with
 | nil=>exact⟨rfl,rfl,rfl⟩
 | cons _ ih=>exact⟨congrArg (_ :: ·) ih.1,congrArg (_ :: ·) ih.2.1,congrArg (_ :: ·) ih.2.2⟩
theorem gnms_some{k:Rho→R}(J:Jobs xs is bs vs ds js){ρ:Rho}(h:gnms (is.zip bs) ρ ds k=some z):k (setAll js ρ)=some z:=by
 induction J generalizing ρ with
 | nil=>exact h
 | @cons x xs i is b bs v vs d ds js J ih=>
  have h:K.ownK b d (fun s=>K.setK i s ρ fun ρ=>gnms (is.zip bs) ρ ds k)=some z:=h
  rw[K.ownK_eq,K.setK_eq]at h
  exact ih h
end
theorem filter_names{f:PySem.Expr→Option Str}(hf:∀ x p,f (.Name x p)=some x∨f (.Name x p)=none){ts:List PySem.Expr}{xs:List Str}(h:namesOf ts=some xs)(hl:(ts.filterMap f).length=ts.length):ts.filterMap f=xs:=by
 induction ts generalizing xs with
 | nil=>cases h;rfl
 | cons e ts ih=>
  obtain⟨x,p,ys,rfl,hy,rfl⟩:=namesOf_cons h
  rcases hf x p with q | q
  ·rw[List.filterMap_cons,q]at hl ⊢
   exact congrArg (x :: ·) (ih hy (Nat.succ.inj hl))
  ·rw[List.filterMap_cons,q]at hl
   exact absurd (List.length_filterMap_le f ts) (Nat.not_le.mpr (hl▸Nat.lt_succ_self _))
theorem swapped_cases{ts vs:List PySem.Expr}{k k2:Nat}{tp vp:Pos}{xs:List Str}(hn:namesOf ts=some xs)(hc:vs.all (foldedForSure 8)=true∨vs.all (constantsAlone 8)=false):
  swappedStores [.Tuple ts k tp] (.Tuple vs k2 vp) env=pure none∨swappedStores [.Tuple ts k tp] (.Tuple vs k2 vp) env=pure (some xs):=by
 unfold swappedStores
 dsimp only
 split
 ·exact .inl rfl
 split
 ·exact .inl rfl
 split
 ·exact .inl rfl
 rename_i q
 split
 ·exact .inl rfl
 rename_i nf
 have nc:vs.all (constantsAlone 8)=false:=hc.resolve_left nf
 rw[nc]
 simp only[Bool.or_eq_true,bne_iff_ne,ne_eq,not_or,Decidable.not_not]at q
 refine .inr ?_
 have:=filter_names (f:=fun x=>match x with
  | PySem.Expr.Name id pos=>if (env.kindOf id==some NameKind.local&&pos.line==(Option.map (fun x:PySem.Expr=>x.pos.line) ts.head?).getD 0)=true then some id else none
  | x=>none) (fun x p=>by dsimp only;split <;> simp) hn q.1
 rw[← this];rfl
theorem swapped_none{ts vs:List PySem.Expr}{k k2:Nat}{tp vp:Pos}(hn:∀ e∈ts,∀ x p,e ≠ .Name x p):swappedStores [.Tuple ts k tp] (.Tuple vs k2 vp) env=pure none:=by
 unfold swappedStores
 dsimp only
 split
 ·rfl
 rename_i q1
 split
 ·rfl
 have e0:∀ (f:PySem.Expr→Option Str),(∀ e,(∀ x p,e ≠ .Name x p)→f e=none)→ts.filterMap f=[]:=fun f hf=>List.filterMap_eq_nil_iff.mpr fun e m=>hf e (hn e m)
 rw[if_pos]
 rw[e0 _ fun e he=>by cases e <;> first | rfl | exact absurd rfl (he _ _)]
 simp only[Bool.or_eq_true,not_or,Bool.not_eq_true,Bool.not_eq_false',beq_iff_eq,bne_iff_ne,ne_eq,Bool.not_eq_eq_eq_not,Bool.not_true]at q1 ⊢
 left
 intro q
 rw[← q]at q1
 simp at q1
theorem swapped_other{ts:List PySem.Expr}{k:Nat}{tp:Pos}{v:PySem.Expr}:(∀ es k p,v ≠ .Tuple es k p)→swappedStores [.Tuple ts k tp] v env=pure none:=by
 apply @PySem.Expr.casesOn (fun v=>(∀ es k p,v ≠ .Tuple es k p)→swappedStores [.Tuple ts k tp] v env=pure none) v
 case Tuple=>intro es k p h;exact absurd rfl (h es k p)
 all_goals (intros;rfl)
theorem swaps_tup{ts:List PySem.Expr}{k:Nat}{tp:Pos}{v:PySem.Expr}{l:Nat}:swapsWithSole [.Tuple ts k tp] v l env=pure false:=by
 apply @PySem.Expr.casesOn (fun v=>swapsWithSole [.Tuple ts k tp] v l env=pure false) v
 all_goals (intros;rfl)
theorem seq_bind:∀ (xs:List Str) (vs:List Value) (s:Shared) {Q:Unit→Shared→Prop},SeqSt w A env xs vs (Q ()) s→wpAny (model prog w.w) A (assignInOrder (xs.map fun n=>bindName env n) vs) Q E s
 | [],[],s,Q,q=>wpAny_pure q
 | [],_::_,s,Q,q=>q.elim
 | _::_,[],s,Q,q=>q.elim
 | x::xs,v::vs,s,Q,q=>by
  show wpAny _ _ (do holding vs (bindName env x v);assignInOrder (xs.map fun n=>bindName env n) vs) _ _ _
  exact wpAny_bind (wpAny_holding (wpAny_bindName (wpAny_mono q (fun _ s' g=>seq_bind xs vs s' g) fun _ _ x=>x)))
theorem names_len{ts:List PySem.Expr}{xs:List Str}(h:namesOf ts=some xs):xs.length=ts.length:=by
 induction ts generalizing xs with
 | nil=>cases h;rfl
 | cons e ts ih=>
  obtain⟨x,p,ys,rfl,hy,rfl⟩:=namesOf_cons h
  exact congrArg Nat.succ (ih hy)
theorem wSlots_len{xs:List Str}{is:List Nat}(h:wSlots m c xs=some is):is.length=xs.length∧∀ (k:Nat) x i,xs[k]?=some x→is[k]?=some i→wSlot m c x=some i:=by
 induction xs generalizing is with
 | nil=>cases h;exact⟨rfl,nofun⟩
 | cons x xs ih=>
  have h:(match wSlot m c x with | some i=>(wSlots m c xs).map (i :: ·) | none=>none)=some is:=h
  cases hi:wSlot m c x with
  | none=>rw[hi]at h;cases h
  | some i=>
   rw[hi]at h
   obtain⟨is',hs',rfl⟩:=Option.map_eq_some_iff.mp h
   have ih:=ih hs'
   refine⟨congrArg Nat.succ ih.1,fun k y j e1 e2=>?_⟩
   cases k with
   | zero=>cases e1;cases e2;exact hi
   | succ k=>exact ih.2 k y j e1 e2
theorem wSlot_slot{x:Str}{i:Nat}(h:wSlot m c x=some i):c.slot x=some i:=by
 unfold wSlot at h
 cases q:c.slot x with
 | none=>rw[q]at h;cases h
 | some j=>
  rw[q]at h
  dsimp only at h
  split at h
  ·cases h
  ·exact h
theorem slots_nodup{xs:List Str}{is:List Nat}(hs:wSlots m c xs=some is)(nd:xs.Nodup):is.Nodup:=by
 obtain⟨hl,hg⟩:=wSlots_len hs
 rw[List.Nodup,List.pairwise_iff_getElem]at nd ⊢
 intro a b ha hb hab q
 have ha':=hl▸ha
 have hb':=hl▸hb
 have h1:=hg a xs[a] is[a] (List.getElem?_eq_getElem ha') (List.getElem?_eq_getElem ha)
 have h2:=hg b xs[b] is[b] (List.getElem?_eq_getElem hb') (List.getElem?_eq_getElem hb)
 rw[← q]at h2
 exact nd a b ha' hb' hab (slot_inj (wSlot_slot h1) (wSlot_slot h2))
theorem sem_asgL(hh:A.handled=none){r:Rec}{ts vs:List PySem.Expr}{k k2:Nat}{tp vp p:Pos}{xs:List Str}{is:List Nat}{os:List Bool}(H:∀ e,DOk w A c false e (r c false e))(hn:namesOf ts=some xs)(nd:xs.Nodup)(hs:wSlots m c xs=some is)(hv:vs.all noStar=true)(hl:vs.length=ts.length)(hb:Nat.ble vs.length 1000=true)(hol:os.length=vs.length)
  (ho:∀ (i:Nat) (e:PySem.Expr),vs[i]?=some e→os[i]?=some true→∃ n,isFresh n c e=true) (hc:vs.all (foldedForSure 8)=true∨vs.all (constantsAlone 8)=false):
  XOk w A c m (.Assign [.Tuple ts k tp] (.Tuple vs k2 vp) p) (K.xAsgL (gnms (is.zip os)) (K.lD (vs.map (r c false)))):=by
 intro env ln hB hC N0 o N ρ s z kc kn Q hm F g out
 have g:K.lD (vs.map (r c false)) ρ (fun xs=>gnms (is.zip os) ρ xs kn)=some z:=g
 have nl:=names_len hn
 obtain⟨il,ig⟩:=wSlots_len hs
 have main:∀ (Q':Value→Shared→Prop),(∀ h' tk us (ds:List V) N' js,us.length=xs.length→Jobs xs is os us ds js→FI w c env ln hB hC N0 o N' ρ h'→(∀ j∈js,c.slot j.x=some j.i∧(ln=none∨j.i≠0)∧NewV w env hC ρ N' h' o j.v j.sl)→js.Pairwise Dis→kn (setAll js ρ)=some z→
   ∀ T,h'.IsTuple T us.toArray→IsTup h' T us.toArray→Q' (.ref T) (sx s h' tk))→wpAny (model prog w.w) A (eval (.Tuple vs k2 vp) env) Q' E s:=by
  intro Q' f
  refine wpAny_Tuple_spliced ?_
  rw[starEach_eq hv]
  refine list_own H vs os N s _ _ hol.symm ho F g fun ds us h' tk N' l1 l2 g kp sub inv F' G D B=>⟨?_,?_⟩
  ·rw[l2];exact Nat.le_trans (Nat.le_of_ble_eq_true hb) (by decide)
  have k2:Kp h' (h'.push { cls:=.type "tuple",data:=.seq us.toArray }):=kp_push _ _
  have hT:(h'.push { cls:=.type "tuple",data:=.seq us.toArray }).get? h'.objs.size=some (tpl us.toArray 0):=Heap.get?_push_size _ rfl
  have lu:us.length=xs.length:=by omega
  obtain⟨js,J⟩:=jobs_ex (ds:=ds) il (bs:=os) (by omega) lu (by omega)
  refine f _ tk us ds N' js lu J (F'.keeps k2) (fun j mj=>?_) ?_ (gnms_some J g) _ ⟨_,hT,rfl,_,rfl⟩ (isTup_of hT)
  ·refine bc fun gG=>?_
   obtain⟨i,hi⟩:=List.getElem?_of_mem mj
   obtain⟨e1,e2,e3,b,d,e4,e5,e6⟩:=J.get hi
   obtain⟨q1,q2⟩:=wSlot_ok (ig i _ _ e1 e2) hm
   refine gG ?_
   refine⟨q1,q2,?_⟩
   rw[e6]
   exact NewV.keeps k2 (G i _ _ _ e3 e5 e4)
  ·rw[List.pairwise_iff_getElem]
   intro a b ha hb hab d d' e1 e2
   refine bc fun gG=>?_
   obtain⟨_,_,a3,b1,d1,a4,a5,a6⟩:=J.get (List.getElem?_eq_getElem ha)
   obtain⟨_,_,c3,b2,d2,c4,c5,c6⟩:=J.get (List.getElem?_eq_getElem hb)
   refine gG ?_
   exact D a b _ _ _ _ _ _ d d' hab a3 a5 a4 c3 c5 c4 (a6.symm.trans e1) (c6.symm.trans e2)
 rcases swapped_cases (k:=k) (k2:=k2) (tp:=tp) (vp:=vp) (env:=env) hn hc with hw | hw
 ·refine Assign_Tuple (main _ fun h' tk us ds N' js l1 JJ F' J P g T t1 t2=>?_) rfl hw
  refine assign_unp (s:=(sx s h' tk)) hh (.tup ts xs k tp T us hn l1.symm t1) fun h2 k2=>?_
  obtain⟨m1,m2,m3⟩:=JJ.maps
  have:=store_jobs (A:=A) js ρ o (sx s h2 tk) (Q .next) (F'.keeps k2) (fun j mj=>let ⟨a,b,c⟩:=J j mj;⟨a,b,c.keeps k2⟩) P fun h3 tk3 o3 F3=>out .next h3 tk3 ⟨o3,N',_,F3,g⟩
  rw[m1,m2]at this
  exact this
 ·refine Assign_Tuple_swapped (main _ fun h' tk us ds N' js l1 JJ F' J P g T t1 t2=>?_) rfl hw
  rw[show xs.length=us.toArray.size from l1.symm]
  refine unpackItems_tuple hh t2 fun h2 hx=>?_
  have k2:Kp h' h2:=fun a o e=>hx a o (Nat.ne_of_lt (Heap.lt_size e)) e
  refine seq_bind _ _ _ ?_
  obtain⟨m1,m2,m3⟩:=JJ.maps
  have:=store_jobs (A:=A) js.reverse ρ o (sx s h2 tk) (Q .next) (F'.keeps k2) (fun j mj=>let ⟨a,b,c⟩:=J j (List.mem_reverse.mp mj);⟨a,b,c.keeps k2⟩) (List.pairwise_reverse.mpr (P.imp fun x=>x.symm)) fun h3 tk3 o3 F3=>out .next h3 tk3 ⟨o3,N',_,by rw[setAll_rev _ _ (by rw[m3];exact slots_nodup hs nd)]at F3;exact F3,g⟩
  rw[List.map_reverse,List.map_reverse,m1,m2]at this
  exact this
end
section
set_option tactic.hygienic true
noncomputable def subOf:PySem.Expr→Option (Str × PySem.Expr)
 | .Subscript (.Name x _) k _=>some (x,k)
 | _=>none
theorem subOf_some{e:PySem.Expr}{p:Str × PySem.Expr}(h:subOf e=some p):∃ px ps,e=.Subscript (.Name p.1 px) p.2 ps:=by
 refine Classical.byContradiction fun g=>?_
 revert h g
 apply @PySem.Expr.casesOn (fun e=>subOf e=some p→(¬∃ px ps,e=.Subscript (.Name p.1 px) p.2 ps)→False) e
 case Subscript=>
  intro a k ps
  apply @PySem.Expr.casesOn (fun a=>subOf (.Subscript a k ps)=some p→(¬∃ px ps',PySem.Expr.Subscript a k ps=.Subscript (.Name p.1 px) p.2 ps')→False) a
  case Name=>intro x px h g;cases h;exact g ⟨_,_,rfl⟩
  all_goals (intros;rename_i h g;exact noP h)
 all_goals (intros;rename_i h g;exact noP h)
noncomputable def subTs(r:Rec)(c:Cx):List PySem.Expr→Option (List (Nat × D))
 | []=>some []
 | e::es=>match subOf e with
  | some (x,k)=>(match c.slot x with
   | some i=>(subTs r c es).map ((i,r c false k) :: ·)
   | none=>none)
  | none=>none
theorem subTs_cons{r:Rec}{e:PySem.Expr}{es:List PySem.Expr}{l:List (Nat × D)}(h:subTs r c (e::es)=some l):∃ x px k ps i l',e=.Subscript (.Name x px) k ps∧c.slot x=some i∧subTs r c es=some l'∧l=(i,r c false k)::l':=by
 have h:(match subOf e with | some (x,k)=>(match c.slot x with | some i=>(subTs r c es).map ((i,r c false k) :: ·) | none=>none) | none=>none)=some l:=h
 cases q:subOf e with
 | none=>rw[q]at h;cases h
 | some p=>
  refine bc fun gG=>?_
  obtain⟨x,k⟩:=p
  obtain⟨px,ps,rfl⟩:=subOf_some q
  refine gG ?_
  rw[q]at h
  cases q2:c.slot x with
  | none=>simp only[q2]at h;cases h
  | some i=>
   simp only[q2]at h
   obtain⟨l',h1,h2⟩:=Option.map_eq_some_iff.mp h
   exact⟨x,px,k,ps,i,l',rfl,q2,h1,h2.symm⟩
theorem subTs_len{r:Rec}:∀ (es:List PySem.Expr) (l:List (Nat × D)),subTs r c es=some l→(assignEach es env).length=es.length∧(assignEach es env).findIdx? (·.1)=none∧∀ e∈es,∀ x p,e ≠ .Name x p
 | [],l,h=>⟨rfl,rfl,fun _ m=>nomatch m⟩
 | e::es,l,h=>by
  refine bc fun gG=>?_
  obtain⟨x,px,k,ps,i,l',rfl,_,h,_⟩:=subTs_cons h
  obtain⟨a,b,d⟩:=subTs_len es l' h
  refine gG ?_
  refine⟨congrArg Nat.succ a,?_,fun e' m=>?_⟩
  ·show List.findIdx? (·.1) ((false,assign (.Subscript (.Name x px) k ps) env)::assignEach es env)=none
   rw[List.findIdx?_cons]
   simp [b]
  ·rcases List.mem_cons.mp m with rfl | m
   ·intro _ _ q;cases q
   ·exact d e' m
theorem assign_sub{x:Str}{px ps:Pos}{k:PySem.Expr}{v:Value}{Q:Unit→Shared→Prop}
  (hq:wpAny (model prog w.w) A (eval (.Name x px) env) (fun ov s₁=>wpAny (model prog w.w) A (eval k env) (fun iv s₂=>wpAny (model prog w.w) A (setItem ov iv v) Q E s₂) E s₁) E s):wpAny (model prog w.w) A (assign (.Subscript (.Name x px) k ps) env v) Q E s:=by
 rw[assign_Subscript]
 refine wpAny_bind (wpAny_holding (wpAny_mono hq (fun ov s₁ h₁=>?_) fun _ _ x=>x))
 refine wpAny_bind (wpAny_holding (wpAny_mono h₁ (fun iv s₂ h₂=>?_) fun _ _ x=>x))
 refine wpAny_bind (wpAny_standAt (wpAny_bind (wpAny_holding (wpAny_mono h₂ (fun u s₃ h₃=>?_) fun _ _ x=>x))))
 exact wpAny_release h₃
theorem store_subs(hu:A.units + 80 < cLine){r:Rec}(H:∀ e,DOk w A c false e (r c false e)){kn:Rho→R}:∀ (ts:List PySem.Expr) (l:List (Nat × D)) (vs:List Value) (ds:List V) (ρ:Rho) (s:Shared) (Q:Unit→Shared→Prop),subTs r c ts=some l→RbL w N false s.heap vs ds→FI w c env ln hB hC N0 o N ρ s.heap→gits l ρ ds kn=some z→
  (∀ h' tk ρ',FI w c env ln hB hC N0 o N ρ' h'→kn ρ'=some z→Q () (sx s h' tk))→wpAny (model prog w.w) A (assignInOrder ((assignEach ts env).map (·.2)) vs) Q E s
 | [],l,vs,ds,ρ,s,Q,hl,rr,F,g,q=>by
  cases hl
  cases rr with
  | nil=>exact wpAny_pure (q s.heap s.toks ρ F g)
  | cons=>cases g
 | t::ts,l,vs,ds,ρ,s,Q,hl,rr,F,g,q=>by
  refine bc fun gG=>?_
  obtain⟨x,px,k,ps,i,l',rfl,hx,hl',rfl⟩:=subTs_cons hl
  refine gG ?_
  cases rr with
  | nil=>cases g
  | @cons v d vs ds rv rr=>
   have g:K.oN i ρ (fun c'=>r c false k ρ fun y=>K.setV' c' y d fun c'=>K.setK i (.ow c') ρ fun ρ=>gits l' ρ ds kn)=some z:=g
   show wpAny _ _ (do holding vs (assign (.Subscript (.Name x px) k ps) env v);assignInOrder ((assignEach ts env).map (·.2)) vs) _ _ _
   refine wpAny_bind (wpAny_holding (assign_sub (sub_store (kn:=fun ρ=>gits l' ρ ds kn) hu (H k) hx F rv g fun h' tk ρ' F' kb nt no g'=>?_)))
   exact store_subs hu H ts l' vs ds ρ' (sx s h' tk) Q hl' (RbL.but (fun a e=>e▸no) kb nt rr) F' g' fun h'' tk' ρ'' F'' g''=>q h'' tk' ρ'' F'' g''
theorem sem_asgS(hh:A.handled=none)(hu:A.units + 80 < cLine){r:Rec}{ts vs:List PySem.Expr}{k k2:Nat}{tp vp p:Pos}{l:List (Nat × D)}(H:∀ e,DOk w A c false e (r c false e))(hl:subTs r c ts=some l)(hv:vs.all noStar=true)(hlen:vs.length=ts.length)(hb:Nat.ble vs.length 1000=true):
  XOk w A c m (.Assign [.Tuple ts k tp] (.Tuple vs k2 vp) p) (K.xAsgL (gits l) (K.lD (vs.map (r c false)))):=by
 intro env ln hB hC N0 o N ρ s z kc kn Q hm F g out
 have g:K.lD (vs.map (r c false)) ρ (fun xs=>gits l ρ xs kn)=some z:=g
 obtain⟨a1,a2,a3⟩:=subTs_len (env:=env) ts l hl
 refine Assign_Tuple ?_ rfl (swapped_none a3)
 refine wpAny_Tuple_spliced ?_
 rw[starEach_eq hv]
 refine list_ok H vs s _ _ F.cd g fun ds us h' tk l1 g kp rr=>⟨?_,?_⟩
 ·rw[All2.length rr,l1];exact Nat.le_trans (Nat.le_of_ble_eq_true hb) (by decide)
 have hT:(h'.push { cls:=.type "tuple",data:=.seq us.toArray }).get? h'.objs.size=some (tpl us.toArray 0):=Heap.get?_push_size _ rfl
 have k2:Kp h' (h'.push { cls:=.type "tuple",data:=.seq us.toArray }):=kp_push _ _
 refine wpAny_assign_Tuple (s:={ s with heap:=h'.push { cls:=.type "tuple",data:=.seq us.toArray },toks:=tk }) hh ⟨_,hT,rfl,_,rfl⟩ (by rw[a1,List.size_toArray,All2.length rr,l1,hlen]) a2 fun h2 hx=>?_
 have k3:Kp (h'.push { cls:=.type "tuple",data:=.seq us.toArray }) h2:=fun a o e=>hx a o (Nat.ne_of_lt (Heap.lt_size e)) e
 exact store_subs (s:=(sx s h2 tk)) hu H ts l us ds ρ _ hl (rr.keeps (k2.trans k3)) (F.keeps (kp.trans (k2.trans k3))) g fun h3 t3 ρ' F' g'=>out .next h3 t3 ⟨o,N,ρ',F',g'⟩
theorem sem_asgT(hh:A.handled=none){ts:List PySem.Expr}{k:Nat}{tp p:Pos}{v:PySem.Expr}{xs:List Str}{is:List Nat}{d:D}(H:DOk w A c false v d)(hv:∀ es k p,v ≠ .Tuple es k p)(hn:namesOf ts=some xs)(hs:wSlots m c xs=some is):
  XOk w A c m (.Assign [.Tuple ts k tp] v p) (K.xAsgT is d):=by
 intro env ln hB hC N0 o N ρ s z kc kn Q hm F g out
 have g:d ρ (fun x=>K.vTup x fun l=>K.storeK is ρ l kn)=some z:=g
 refine Assign_Tuple (H.go F.cd g fun x v1 h1 t1 g k1 r1=>?_) swaps_tup (swapped_other hv)
 refine bc fun gG=>?_
 obtain⟨l,rfl,g⟩:=K.vTup_some g
 obtain⟨a,vs,n,rfl,e,rr⟩:=rb_tup_inv r1
 have hlen:l.length=is.length:=by
  clear rr e r1 F out H
  have:∀ (is:List Nat) (l:List V) (ρ:Rho),K.storeK is ρ l kn=some z→l.length=is.length:=by
   intro is
   induction is with
   | nil=>intro l ρ h;cases l with | nil=>rfl | cons=>cases h
   | cons i is ih=>
    intro l ρ h
    cases l with
    | nil=>cases h
    | cons d l=>
     have h:K.setK i (.va d) ρ (fun ρ=>K.storeK is ρ l kn)=some z:=h
     rw[K.setK_eq]at h
     simp [ih l _ h]
  exact this is l ρ g
 obtain⟨il,_⟩:=wSlots_len hs
 refine gG ?_
 refine assign_unp (s:=(sx s h1 t1)) hh (.tup ts xs k tp a vs hn (by rw[All2.length rr];omega) ⟨_,e,rfl,_,rfl⟩) fun h2 k2=>?_
 exact store_row (s:=(sx s h2 t1)) hm xs is vs l ρ _ _ hs (by rw[All2.length rr];omega) (rr.keeps k2) (F.keeps (k1.trans k2)) g fun h3 t3 ρ' F' _ g' _=>out .next h3 t3 ⟨o,N,ρ',F',g'⟩
end
noncomputable def LRight(w:Pk)(A:Around)(fns:List Str)(lits:List (Str × V))(f:Str)(x:V)(ds:List V)(z:V):Prop:=
 ∀ (a L:Addr) (N0 N:Addr→Prop) (hB:Heap) (s:Shared) (vs:List Value) (Q:Value→Shared→Prop),
  w.fn f=some (.ref a)→GI w fns lits N0 hB→Live N0 hB→Kp hB s.heap→hB.get? L=none→(∀ a,N0 a→N a)→(∀ a,N a→N0 a∨hB.get? a=none)→Live N s.heap→N L→Rb w N true s.heap (.ref L) x→isCont x=true→RbL w N false s.heap vs ds→
  (∀ h' tk,KpB (fun b=>b=L) s.heap h'→Rb w N true h' (.ref L) z→isCont z=true→Q .none (sx s h' tk))→wpAny (model prog w.w) A (call (.ref a) (.ref L::vs)) Q E s
noncomputable def LendOk(w:Pk)(A:Around)(OL:Orc)(fns:List Str)(lits:List (Str × V)):Prop:=
 ∀ (f:Str) (i:Nat) (x:V) (ds:List V) (z:V),idxS f 0 fns=some i→OL i (x::ds)=some z→LRight w A fns lits f x ds z
theorem sem_lend{r:Rec}{OL:Orc}{f x:Str}{p1 p2 p3 p:Pos}{es:List PySem.Expr}{g i:Nat}(H:∀ e,DOk w A c false e (r c false e))(HL:LendOk w A OL c.fns c.lits)(hg:c.isGlob f=true)(hf:idxS f 0 c.fns=some g)(hx:c.slot x=some i)(hns:es.all noStar=true):
  XOk w A c m (.Expr (.Call (.Name f p1) (.Name x p2::es) [] p3) p) (K.xLend (OL g) i (K.lD (es.map (r c false)))):=by
 intro env ln hB hC N0 o N ρ s z kc kn Q hm F gg out
 have gg:K.oN i ρ (fun x=>K.lD (es.map (r c false)) ρ fun ds=>K.bndK (OL g (x::ds)) fun x=>K.vList x fun _=>K.setK i (.ow x) ρ kn)=some z:=gg
 refine bc fun gG=>?_
 obtain⟨d0,hd0,gg⟩:=K.oN_some gg
 obtain⟨l0,r0⟩:=F.own x i _ hx hd0
 obtain⟨a,ob,fd,e2,g2,d2⟩:=F.gi.fn f g hf
 refine gG ?_
 refine wpAny_Expr ?_ (by unfold interactive;rw[F.e0.kind];rfl) rfl
 refine wpAny_Call_NameR (ld_global F.e0 hg F.gi.g F.gi.b (.inl e2) ?_)
 rw[starEach_eq (es:=.Name x p2::es) hns]
 refine Calls.callWith_function (o:=ob) (fd:=fd) (Calls.evalArgs_plain ?_)
 refine Calls.spliced_cons (ld_look F.e0 hx l0 ?_)
 refine list_ok H es s _ _ F.cd gg fun xs vs h' tk hl gg kp rr=>⟨⟨kp _ _ g2,d2⟩,?_⟩
 replace gg:=K.bndK_some gg
 refine bc fun gG=>?_
 obtain⟨y,hy,gg⟩:=gg
 replace gg:=K.vList_some gg
 obtain⟨l,rfl,gg⟩:=gg
 rw[K.setK_eq]at gg
 have F1:=F.keeps kp
 obtain⟨n1,n2,n3,n4,n5,_⟩:=F1.ownN i _ hd0
 refine gG ?_
 refine HL f g d0 xs _ hf hy a (o i) N0 N hB (sx s h' tk) vs _ e2 F1.gB F1.l0 F1.kp (F1.ownB hd0) F1.n0 F1.i F1.live n1 (F1.own x i _ hx hd0).2 n5 rr fun h2 t2 kb rb hc=>?_
 exact out .next h2 t2 ⟨o,N,_,F1.mutK hd0 hx hc kb rb,gg⟩
end Mine
end
noncomputable section
open PySem PySem.W PyProof.Rows
namespace Mine
open K (R D DL X Orc Rec TgL)
section
set_option tactic.hygienic true
noncomputable section
noncomputable def keptE:Nat→Cx→Bool→PySem.Expr→List Nat
 | 0,_,_,_=>[]
 | n + 1,c,b,e=>match e with
  | .Name x _=>if b then [] else (match c.slot x with | some i=>[i] | none=>[])
  | .Tuple es _ _=>es.flatMap (keptE n c false)
  | .List es _=>es.flatMap (keptE n c false)
  | .BinOp l _ r _=>keptE n c false l++keptE n c false r
  | .UnaryOp _ a _=>keptE n c false a
  | .BoolOp _ es _=>es.flatMap (keptE n c false)
  | .Compare a ops bs _=>keptE n c (ops.length==1) a++bs.flatMap (keptE n c (ops.length==1))
  | .IfExp t x y _=>keptE n c false t++keptE n c false x++keptE n c false y
  | .Call f es _ _=>(match nameOf f with
   | some f=>es.flatMap (keptE n c (idxS f 0 c.fns).isNone)
   | none=>es.flatMap (keptE n c false))
  | .Subscript a s _=>(match s with
   | .Slice lo hi st _=>keptE n c (!isRev s) a++lo.toList.flatMap (keptE n c false)++hi.toList.flatMap (keptE n c false)
   | s=>keptE n c true a++keptE n c false s)
  | .ListComp elt gens _ _=>gens.flatMap (fun g=>keptE n c (gens.length==1) g.iter++g.ifs.flatMap (keptE n c false))++keptE n c false elt
  | .DictComp k v gens _ _=>gens.flatMap (fun g=>keptE n c false g.iter++g.ifs.flatMap (keptE n c false))++keptE n c false k++keptE n c false v
  | _=>[]
noncomputable def frzL(m:Md)(l:List Nat):List Nat:=m.own.filter fun i=>l.contains i
noncomputable def kpE(m:Md)(c:Cx)(e:PySem.Expr):List Nat:=frzL m (keptE 60 c false e)
noncomputable def kpI(m:Md)(c:Cx)(e:PySem.Expr):List Nat:=match e with
 | .Call (.Name f _) es _ _=>frzL m (es.flatMap (keptE 60 c (f==s_range)))
 | .Call (.Attribute (.Name x _) _ _) _ _ _=>frzL m (match c.slot x with | some i=>[i] | none=>[])
 | e=>kpE m c e
noncomputable def exprK{α:Type}(e:PySem.Expr)(no:PySem.Expr→α)(name:Str→Pos→α:=fun x p=>no (.Name x p))(tup:List PySem.Expr→Nat→Pos→α:=fun es k p=>no (.Tuple es k p))(sub:PySem.Expr→PySem.Expr→Pos→α:=fun a i p=>no (.Subscript a i p))
  (call:PySem.Expr→List PySem.Expr→List Keyword→Pos→α:=fun f es ks p=>no (.Call f es ks p)) (attr:PySem.Expr→Str→Pos→α:=fun o m p=>no (.Attribute o m p)) (lc:PySem.Expr→List Comprehension→Scope→Pos→α:=fun a g sc p=>no (.ListComp a g sc p)):α:=match e with
 | .Name x p=>name x p
 | .Tuple es k p=>tup es k p
 | .Subscript a i p=>sub a i p
 | .Call f es ks p=>call f es ks p
 | .Attribute o m p=>attr o m p
 | .ListComp a g sc p=>lc a g sc p
 | e=>no e
theorem exprK_elim{α:Type}{P:PySem.Expr→α→Prop}{no:PySem.Expr→α}{name:Str→Pos→α}{tup:List PySem.Expr→Nat→Pos→α}{sub:PySem.Expr→PySem.Expr→Pos→α}{call:PySem.Expr→List PySem.Expr→List Keyword→Pos→α}{attr:PySem.Expr→Str→Pos→α}{lc:PySem.Expr→List Comprehension→Scope→Pos→α}
  (h0:∀ e,P e (no e)) (h1:∀ x p,P (.Name x p) (name x p)) (h2:∀ es k p,P (.Tuple es k p) (tup es k p)) (h3:∀ a i p,P (.Subscript a i p) (sub a i p)) (h4:∀ f es ks p,P (.Call f es ks p) (call f es ks p)) (h5:∀ o m p,P (.Attribute o m p) (attr o m p)) (h6:∀ a g sc p,P (.ListComp a g sc p) (lc a g sc p)) (e:PySem.Expr):P e (exprK e no name tup sub call attr lc):=by
 apply @PySem.Expr.casesOn (fun e=>P e (exprK e no name tup sub call attr lc)) e
 case Name=>exact h1
 case Tuple=>exact h2
 case Subscript=>exact h3
 case Call=>exact h4
 case Attribute=>exact h5
 case ListComp=>exact h6
 all_goals (intros;exact h0 _)
section
variable{α:Type}{P:PySem.Expr→α→Prop}{no:PySem.Expr→α}
theorem exN{name:Str→Pos→α}(h0:∀ e,P e (no e))(h1:∀ x p,P (.Name x p) (name x p))(e:PySem.Expr):P e (exprK e no name):=exprK_elim h0 h1 (fun _ _ _=>h0 _) (fun _ _ _=>h0 _) (fun _ _ _ _=>h0 _) (fun _ _ _=>h0 _) (fun _ _ _ _=>h0 _) e
end
noncomputable def optS{α:Type}(o:Option α)(F:α→X):X:=match o with
 | some a=>F a
 | none=>K.xStuck
noncomputable def notTup:PySem.Expr→Bool
 | .Tuple ..=>false
 | _=>true
noncomputable def notComp:PySem.Expr→Bool
 | .ListComp ..=>false
 | .SetComp ..=>false
 | .DictComp ..=>false
 | _=>true
noncomputable def ownF(m:Md)(c:Cx)(i:Nat)(v:PySem.Expr):Bool:=isFresh 60 c v&&m.own.contains i
section
variable(OL:Orc)(E:Rec)(m:Md)(c:Cx)
noncomputable def nameG(i:Nat)(v:PySem.Expr):X:=frzX m (kpE m c v) (K.xAsg i (ownF m c i v) (E c false v))
noncomputable def popS(i j:Nat)(es:List PySem.Expr):X:=match es with
 | []=>K.xPop i j
 | a::as=>match as with
  | []=>K.xStuck
  | b::bs=>match bs with
   | []=>if [a,b].all noStar then frzX m (kpE m c a++kpE m c b) (K.xPopD i j (E c false a) (E c false b)) else K.xStuck
   | _::_=>K.xStuck
noncomputable def popC(i:Nat)(f:PySem.Expr)(es:List PySem.Expr)(kws:List Keyword)(p:Pos):X:=
 exprK f (fun f=>nameG E m c i (.Call f es kws p)) (attr:=fun o mm ap=>exprK o (fun o=>nameG E m c i (.Call (.Attribute o mm ap) es kws p)) (name:=fun x p1=>if kws.isEmpty&&mm==s_pop&&ap.endLine==p.line then optS (c.slot x) (fun j=>popS E m c i j es) else nameG E m c i (.Call (.Attribute (.Name x p1) mm ap) es kws p)))
noncomputable def nameS(y:Str)(v:PySem.Expr):X:=optS (wSlot m c y) fun i=>exprK v (fun v=>if notComp v then nameG E m c i v else K.xStuck) (call:=popC E m c i) (lc:=fun a g sc p=>nameG E m c i (.ListComp a g sc p))
noncomputable def tupOk(es vs:List PySem.Expr):Bool:=vs.all noStar&&vs.length==es.length&&Nat.ble vs.length 1000
noncomputable def tupT1(es vs:List PySem.Expr)(xs:List Str):X:=optS (wSlots m c xs) fun is=>if nodupS xs&&tupOk es vs&&(vs.all (foldedForSure 8) || !vs.all (constantsAlone 8)) then
 frzX m (frzL m (vs.flatMap (keptE 60 c false))) (K.xAsgL (gnms (is.zip (List.zipWith (ownF m c) is vs))) (K.lD (vs.map (E c false)))) else K.xStuck
noncomputable def tupT2(es vs:List PySem.Expr):X:=optS (subTs E c es) fun l=>if tupOk es vs then frzX m (frzL m (vs.flatMap (keptE 60 c false))) (K.xAsgL (gits l) (K.lD (vs.map (E c false)))) else K.xStuck
noncomputable def tupT(es vs:List PySem.Expr):X:=match namesOf es with
 | some xs=>tupT1 E m c es vs xs
 | none=>tupT2 E m c es vs
noncomputable def tupN(es:List PySem.Expr)(v:PySem.Expr):X:=optS (namesOf es) fun xs=>optS (wSlots m c xs) fun is=>if notTup v then frzX m (kpE m c v) (K.xAsgT is (E c false v)) else K.xStuck
noncomputable def tupS(es:List PySem.Expr)(v:PySem.Expr):X:=exprK v (tupN E m c es) (tup:=fun vs _ _=>tupT E m c es vs)
noncomputable def subS(k v:PySem.Expr)(x:Str):X:=optS (c.slot x) fun i=>frzX m (kpE m c k++kpE m c v) (K.xSetI i (E c false k) (E c false v))
noncomputable def asgT(v t:PySem.Expr):X:=exprK t (fun _=>K.xStuck) (name:=fun y _=>nameS E m c y v) (tup:=fun es _ _=>tupS E m c es v) (sub:=fun a k _=>exprK a (fun _=>K.xStuck) (name:=fun x _=>subS E m c k v x))
noncomputable def asgS(ts:List PySem.Expr)(v:PySem.Expr):X:=match ts with
 | []=>K.xStuck
 | t::ts=>match ts with
  | []=>asgT E m c v t
  | _::_=>K.xStuck
noncomputable def augS(t:PySem.Expr)(op:Operator)(v:PySem.Expr):X:=if augOp op then exprK t (fun _=>K.xStuck)
 (name:=fun y _=>optS (wSlot m c y) fun i=>frzX m (kpE m c v) (K.xAug i op (E c false v)))
 (sub:=fun a k _=>exprK a (fun _=>K.xStuck) (name:=fun x _=>exprK k (fun _=>K.xStuck) (name:=fun y py=>optS (c.slot x) fun i=>frzX m (kpE m c v) (K.xAugI i (E c false (.Name y py)) op (E c false v))))) else K.xStuck
noncomputable def meth1(x mm:Str)(q:Bool)(a:PySem.Expr):X:=if q&&noStar a then optS (c.slot x) (fun i=>if mm==s_append then frzX m (kpE m c a) (K.xApp i (E c false a)) else if mm==s_extend then frzX m (kpE m c a) (K.xExt i (E c false a)) else K.xStuck) else K.xStuck
noncomputable def methS(x mm:Str)(es:List PySem.Expr)(q:Bool):X:=match es with
 | []=>K.xStuck
 | a::as=>match as with
  | []=>meth1 E m c x mm q a
  | _::_=>K.xStuck
noncomputable def dropS(v:PySem.Expr):X:=if notComp v then frzX m (kpE m c v) (K.xDrop (E c false v)) else K.xStuck
noncomputable def lendS(f x:Str)(es:List PySem.Expr):X:=optS (idxS f 0 c.fns) fun g=>optS (c.slot x) fun i=>if c.isGlob f&&es.all noStar then frzX m (frzL m (es.flatMap (keptE 60 c false))) (K.xLend (OL g) i (K.lD (es.map (E c false)))) else K.xStuck
noncomputable def callS(f:PySem.Expr)(es:List PySem.Expr)(kws:List Keyword)(p:Pos):X:=
 exprK f (fun f=>dropS E m c (.Call f es kws p)) (name:=fun f' p1=>if kws.isEmpty&&c.lends.contains f' then (match es with
   | []=>K.xStuck
   | e::es'=>exprK e (fun _=>K.xStuck) (name:=fun x _=>lendS OL E m c f' x es')) else dropS E m c (.Call (.Name f' p1) es kws p))
  (attr:=fun o mm ap=>exprK o (fun o=>dropS E m c (.Call (.Attribute o mm ap) es kws p)) (name:=fun x p1=>if kws.isEmpty then methS E m c x mm es (ap.endLine==p.line) else dropS E m c (.Call (.Attribute (.Name x p1) mm ap) es kws p)))
noncomputable def exprS(v:PySem.Expr):X:=exprK v (dropS E m c) (call:=callS OL E m c)
noncomputable def blk(rs:Stmt→X):List Stmt→X
 | []=>K.xNil
 | s::ss=>K.xSeq (rs s) (blk rs ss)
noncomputable def forS(rs:Stmt→X)(t it:PySem.Expr)(b:List Stmt):X:=optS (tgNames t) fun ts=>optS (wSlots m c ts) fun is=>optS (K.itD E c false it) fun q=>if okT true q.1 ts.length t then frzX m (kpI m c it) (K.xFor is q.1 (K.lD q.2) (blk rs b)) else K.xStuck
noncomputable def retE(e:PySem.Expr):X:=if !m.ln&&(!m.fr || isFresh 60 c e) then frzX m (kpE m c e) (K.xRet (E c false e)) else K.xStuck
noncomputable def retS(v:Option PySem.Expr):X:=optS v (retE E m c)
noncomputable def stepS(rs:Stmt→X)(s:Stmt):X:=match s with
 | .Return v _=>retS E m c v
 | .Assign ts v _=>asgS E m c ts v
 | .AugAssign t op v _=>augS E m c t op v
 | .Expr v _=>exprS OL E m c v
 | .If t a b _=>frzX m (kpE m c t) (K.xIte (E c false t) (blk rs a) (blk rs b))
 | .While t b els _=>if els.isEmpty then K.xWhl 1000 (E c false t) (blk rs b) else K.xStuck
 | .For t it b els _=>if els.isEmpty then forS E m c rs t it b else K.xStuck
 | .Continue _=>K.xCont
 | _=>K.xStuck
noncomputable def cS:Nat→Stmt→X
 | 0=>fun _=>K.xStuck
 | n + 1=>stepS OL E m c (cS n)
end
end
variable{w:Pk}{A:Around}{c:Cx}{m:Md}{O OL:Orc}
theorem stuck_ok{st:Stmt}:XOk w A c m st K.xStuck:=sem_stuck fun _ _ _=>rfl
theorem blk_ok{rs:Stmt→X}(H:∀ s,XOk w A c m s (rs s)):∀ ss,BOk w A c m ss (blk rs ss)
 | []=>sem_nil
 | s::ss=>sem_cons (H s) (blk_ok H ss)
theorem swaps_nc{v:PySem.Expr}{t:Option PySem.Expr}{l:Nat}{env:Env}:notComp v=true→swapsWith v t l env=pure false:=by
 apply @PySem.Expr.casesOn (fun v=>notComp v=true→swapsWith v t l env=pure false) v
 all_goals first | (intros;rfl) | (intros;rename_i h;exact absurd h Bool.false_ne_true)
theorem sem_opt{f:Env→Sem Flow}{α:Type}{o:Option α}{F:α→X}(h:∀ a,o=some a→SemOk w A c m f (F a)):SemOk w A c m f (optS o F):=by
 cases o with
 | none=>exact sem_stuck fun _ _ _=>rfl
 | some a=>exact h a rfl
theorem sem_if2{f:Env→Sem Flow}{b:Bool}{x y:X}(h:b=true→SemOk w A c m f x)(h':SemOk w A c m f y):SemOk w A c m f (if b then x else y):=by
 cases b with
 | true=>exact h rfl
 | false=>exact h'
theorem two_t{a b:Bool}(h:(a&&b)=true):a=true∧b=true:=by rw[Bool.and_eq_true]at h;exact h
theorem not_tup{v:PySem.Expr}(h:notTup v=true)(es:List PySem.Expr)(k:Nat)(p:Pos):v ≠ .Tuple es k p:=fun q=>by subst q;cases h
section
variable{E:Rec}{p:Pos}
theorem own_fresh{i:Nat}{v:PySem.Expr}(q:ownF m c i v=true):∃ m,isFresh m c v=true:=⟨60,(two_t q).1⟩
theorem nameG_ok(HD:∀ b e,DOk w A c b e (E c b e)){y:Str}{p':Pos}{i:Nat}{v:PySem.Expr}(hi:wSlot m c y=some i)(hs:∀ env,swapsWith v (some (.Name y p')) p.line env=pure false):XOk w A c m (.Assign [.Name y p'] v p) (nameG E m c i v):=
 sem_frz (sem_asg (HD false _) hi own_fresh hs)
theorem popS_ok(hu:A.units + 80 < cLine)(HD:∀ b e,DOk w A c b e (E c b e)){x y:Str}{p1 ap p2 p':Pos}{es:List PySem.Expr}{i j:Nat}(hj:c.slot x=some j)(hi:wSlot m c y=some i)(hp:(ap.endLine==p2.line)=true):
  XOk w A c m (.Assign [.Name y p'] (.Call (.Attribute (.Name x p1) s_pop ap) es [] p2) p) (popS E m c i j es):=by
 cases es with
 | nil=>exact sem_pop hj hi hp
 | cons a es=>
 cases es with
 | nil=>exact stuck_ok
 | cons b es=>
 cases es with
 | nil=>exact sem_if fun hns=>sem_frz (sem_popD hu (HD false _) (HD false _) hns hj hi hp)
 | cons _ _=>exact stuck_ok
theorem popC_ok(hu:A.units + 80 < cLine)(HD:∀ b e,DOk w A c b e (E c b e)){y:Str}{p':Pos}{i:Nat}(hi:wSlot m c y=some i)(f:PySem.Expr)(es:List PySem.Expr)(kws:List Keyword)(p2:Pos):
  XOk w A c m (.Assign [.Name y p'] (.Call f es kws p2) p) (popC E m c i f es kws p2):=by
 have g:∀ f,XOk w A c m (.Assign [.Name y p'] (.Call f es kws p2) p) (nameG E m c i (.Call f es kws p2)):=fun f=>nameG_ok HD hi fun _=>rfl
 refine exprK_elim (P:=fun f X=>XOk w A c m (.Assign [.Name y p'] (.Call f es kws p2) p) X) g (fun _ _=>g _) (fun _ _ _=>g _) (fun _ _ _=>g _) (fun _ _ _ _=>g _) (fun o mm ap=>?_) (fun _ _ _ _=>g _) f
 refine exN (P:=fun o X=>XOk w A c m (.Assign [.Name y p'] (.Call (.Attribute o mm ap) es kws p2) p) X) (fun _=>g _) (fun x p1=>sem_if2 (fun q=>?_) (g _)) o
 have q:=two_t q
 have q1:=two_t q.1
 obtain rfl:=List.isEmpty_iff.mp q1.1
 obtain rfl:=eq_of_beq q1.2
 exact sem_opt fun j hj=>popS_ok hu HD hj hi q.2
theorem nameS_ok(hu:A.units + 80 < cLine)(HD:∀ b e,DOk w A c b e (E c b e))(HC:∀ elt gens sc pc,CompOk w A c elt gens sc pc (E c false (.ListComp elt gens sc pc))){y:Str}{p':Pos}(v:PySem.Expr):
  XOk w A c m (.Assign [.Name y p'] v p) (nameS E m c y v):=
 sem_opt fun i hi=>exprK_elim (P:=fun v X=>XOk w A c m (.Assign [.Name y p'] v p) X) (fun e=>sem_if fun hn=>nameG_ok HD hi fun _=>swaps_nc hn) (fun _ _=>nameG_ok HD hi fun _=>rfl) (fun _ _ _=>nameG_ok HD hi fun _=>rfl) (fun _ _ _=>nameG_ok HD hi fun _=>rfl) (popC_ok hu HD hi) (fun _ _ _=>nameG_ok HD hi fun _=>rfl)
  (fun elt gens sc pc=>sem_frz (sem_asgC (HC elt gens sc pc) hi)) v
theorem tupT_ok(hh:A.handled=none)(hu:A.units + 80 < cLine)(HD:∀ b e,DOk w A c b e (E c b e))(es vs:List PySem.Expr)(k k2:Nat)(tp vp:Pos):XOk w A c m (.Assign [.Tuple es k tp] (.Tuple vs k2 vp) p) (tupT E m c es vs):=by
 unfold tupT
 cases hxs:namesOf es with
 | none=>
  refine sem_opt fun l hl=>sem_if fun q=>sem_frz ?_
  have q:=two_t q
  have q1:=two_t q.1
  exact sem_asgS hh hu (HD false) hl q1.1 (eq_of_beq q1.2) q.2
 | some xs=>
  refine sem_opt fun is his=>sem_if fun q=>sem_frz ?_
  have q:=two_t q
  have q1:=two_t q.1
  have q2:=two_t q1.2
  have q3:=two_t q2.1
  have q5:vs.length=es.length:=eq_of_beq q3.2
  have l1:=names_len hxs
  have l2:=(wSlots_len his).1
  refine sem_asgL hh (HD false) hxs (nodupS_ok q1.1) his q3.1 q5 q2.2 (by rw[List.length_zipWith];omega) (fun i e he ho=>?_) (by have:=q.2;simpa only[Bool.or_eq_true,Bool.not_eq_true'] using this)
  rw[List.getElem?_zipWith]at ho
  cases hz:is[i]? with
  | none=>rw[hz]at ho;cases ho
  | some j=>
   rw[hz,he]at ho
   exact own_fresh (Option.some.inj ho)
theorem asg_ok(hh:A.handled=none)(hu:A.units + 80 < cLine)(HD:∀ b e,DOk w A c b e (E c b e))(HC:∀ elt gens sc pc,CompOk w A c elt gens sc pc (E c false (.ListComp elt gens sc pc)))(ts:List PySem.Expr)(v:PySem.Expr):
  XOk w A c m (.Assign ts v p) (asgS E m c ts v):=by
 cases ts with
 | nil=>exact stuck_ok
 | cons t ts=>
 cases ts with
 | cons _ _=>exact stuck_ok
 | nil=>
 refine exprK_elim (P:=fun t X=>XOk w A c m (.Assign [t] v p) X) (fun _=>stuck_ok) (fun y p'=>nameS_ok hu HD HC v) (fun es k tp=>?_) (fun a k ps=>?_) (fun _ _ _ _=>stuck_ok) (fun _ _ _=>stuck_ok) (fun _ _ _ _=>stuck_ok) t
 ·have g:∀ v,XOk w A c m (.Assign [.Tuple es k tp] v p) (tupN E m c es v):=fun v=>sem_opt fun xs hxs=>sem_opt fun is his=>sem_if fun hn=>sem_frz (sem_asgT hh (HD false _) (not_tup hn) hxs his)
  exact exprK_elim (P:=fun v X=>XOk w A c m (.Assign [.Tuple es k tp] v p) X) g (fun _ _=>g _) (fun vs k2 vp=>tupT_ok hh hu HD es vs k k2 tp vp) (fun _ _ _=>g _) (fun _ _ _ _=>g _) (fun _ _ _=>g _) (fun _ _ _ _=>g _) v
 ·exact exN (P:=fun a X=>XOk w A c m (.Assign [.Subscript a k ps] v p) X) (fun _=>stuck_ok) (fun x px=>sem_opt fun i hi=>sem_frz (sem_setI hu (HD false _) (HD false _) hi)) a
theorem aug_ok(hu:A.units + 80 < cLine)(HD:∀ b e,DOk w A c b e (E c b e))(t:PySem.Expr)(op:Operator)(v:PySem.Expr):XOk w A c m (.AugAssign t op v p) (augS E m c t op v):=by
 refine sem_if fun ho=>exprK_elim (P:=fun t X=>XOk w A c m (.AugAssign t op v p) X) (fun _=>stuck_ok) (fun y p'=>sem_opt fun i hi=>sem_frz (sem_aug (HD false v) hi ho)) (fun _ _ _=>stuck_ok) (fun a k ps=>?_) (fun _ _ _ _=>stuck_ok) (fun _ _ _=>stuck_ok) (fun _ _ _ _=>stuck_ok) t
 refine exN (P:=fun a X=>XOk w A c m (.AugAssign (.Subscript a k ps) op v p) X) (fun _=>stuck_ok) (fun x px=>?_) a
 exact exN (P:=fun k X=>XOk w A c m (.AugAssign (.Subscript (.Name x px) k ps) op v p) X) (fun _=>stuck_ok) (fun y py=>sem_opt fun i hi=>sem_frz (sem_augI hu (HD false _) (HD false v) hi ho)) k
theorem meth_ok(HD:∀ b e,DOk w A c b e (E c b e)){x mm:Str}{es:List PySem.Expr}{p1 ap p2:Pos}:XOk w A c m (.Expr (.Call (.Attribute (.Name x p1) mm ap) es [] p2) p) (methS E m c x mm es (ap.endLine==p2.line)):=by
 cases es with
 | nil=>exact stuck_ok
 | cons a es=>
 cases es with
 | cons _ _=>exact stuck_ok
 | nil=>
 refine sem_if fun q=>sem_opt fun i hi=>?_
 have q:=two_t q
 by_cases e:(mm==s_append)=true
 ·rw[if_pos e]
  obtain rfl:=eq_of_beq e
  exact sem_frz (sem_app (HD false _) hi q.2 q.1)
 ·rw[if_neg e]
  refine sem_if fun e=>?_
  obtain rfl:=eq_of_beq e
  exact sem_frz (sem_ext (HD false _) hi q.2 q.1)
theorem expr_ok(HD:∀ b e,DOk w A c b e (E c b e))(hL:LendOk w A OL c.fns c.lits)(v:PySem.Expr):XOk w A c m (.Expr v p) (exprS OL E m c v):=by
 have g:∀ v,XOk w A c m (.Expr v p) (dropS E m c v):=fun v=>sem_if fun hn=>sem_frz (sem_drop (HD false v) fun env=>swaps_nc hn)
 refine exprK_elim (P:=fun v X=>XOk w A c m (.Expr v p) X) g (fun _ _=>g _) (fun _ _ _=>g _) (fun _ _ _=>g _) (fun f es kws p2=>?_) (fun _ _ _=>g _) (fun _ _ _ _=>g _) v
 refine exprK_elim (P:=fun f X=>XOk w A c m (.Expr (.Call f es kws p2) p) X) (fun _=>g _) (fun f' p1=>sem_if2 (fun q=>?_) (g _)) (fun _ _ _=>g _) (fun _ _ _=>g _) (fun _ _ _ _=>g _) (fun o mm ap=>?_) (fun _ _ _ _=>g _) f
 ·have q:=two_t q
  obtain rfl:=List.isEmpty_iff.mp q.1
  cases es with
  | nil=>exact stuck_ok
  | cons e es=>
   refine exN (P:=fun e X=>XOk w A c m (.Expr (.Call (.Name f' p1) (e::es) [] p2) p) X) (fun _=>stuck_ok) (fun x p2=>sem_opt fun j hj=>sem_opt fun i hi=>sem_if fun q=>sem_frz ?_) e
   have q:=two_t q
   exact sem_lend (HD false) hL q.1 hj hi q.2
 ·refine exN (P:=fun o X=>XOk w A c m (.Expr (.Call (.Attribute o mm ap) es kws p2) p) X) (fun _=>g _) (fun x p1=>sem_if2 (fun q=>?_) (g _)) o
  obtain rfl:=List.isEmpty_iff.mp q
  exact meth_ok HD
theorem ret_ok(HD:∀ b e,DOk w A c b e (E c b e)){v:Option PySem.Expr}:XOk w A c m (.Return v p) (retS E m c v):=by
 cases v with
 | none=>exact stuck_ok
 | some e=>
  refine sem_if fun q=>sem_frz (sem_ret (HD false e) ?_ ?_)
  ·exact(Bool.not_eq_true' _).mp (two_t q).1
  ·intro hf
   have q:=(two_t q).2
   rw[hf]at q
   exact⟨_,q⟩
end
theorem step_ok(hh:A.handled=none)(hu:A.units + 80 < cLine){k:Nat}(hc:CallOk w A O c.fns c.lits c.fresh)(hL:LendOk w A OL c.fns c.lits){rs:Stmt→X}(H:∀ s,XOk w A c m s (rs s))(s:Stmt):
  XOk w A c m s (stepS OL (K.cE O (k + 1)) m c rs s):=by
 obtain⟨HD,HT⟩:=cE_snd (w:=w) (A:=A) (O:=O) hh hu (k + 1) c hc
 have B:=blk_ok H
 apply @PySem.Stmt.casesOn (fun s=>XOk w A c m s (stepS OL (K.cE O (k + 1)) m c rs s)) s
 case Return=>intro v p;exact ret_ok HD
 case If=>intro t a b p;exact sem_frz (sem_ite (HT t) (B a) (B b))
 case While=>
  intro t b els p
  refine sem_if fun q=>?_
  obtain rfl:=List.isEmpty_iff.mp q
  exact sem_while (HT t) (B b)
 case For=>
  intro t it b els p
  refine sem_if fun q=>?_
  obtain rfl:=List.isEmpty_iff.mp q
  exact sem_opt fun ts hts=>sem_opt fun is his=>sem_opt fun q hq=>sem_if fun o=>sem_frz (sem_for hh HD hts his hq o (B b))
 case Continue=>intro p;exact sem_cont
 case Assign=>intro ts v p;exact asg_ok hh hu HD (fun elt gens sc pc=>comp_any (cE_snd hh hu k) hc hh elt gens sc pc) ts v
 case AugAssign=>intro t op v p;exact aug_ok hu HD t op v
 case Expr=>intro v p;exact expr_ok HD hL v
 all_goals (intros;exact stuck_ok)
theorem cS_ok(hh:A.handled=none)(hu:A.units + 80 < cLine){k:Nat}(hc:CallOk w A O c.fns c.lits c.fresh)(hL:LendOk w A OL c.fns c.lits):∀ (n:Nat) (s:Stmt),XOk w A c m s (cS OL (K.cE O (k + 1)) m c n s)
 | 0,s=>stuck_ok
 | n + 1,s=>step_ok hh hu hc hL (cS_ok hh hu hc hL n) s
end
end Mine
end
noncomputable section
open PySem PySem.W PyProof.Rows
namespace Mine
section
theorem lookup_zip{α:Type}{xs:List Str}{vs:List α}{k:Nat}{x:Str}(nd:xs.Nodup)(h:xs[k]?=some x)(l:xs.length=vs.length):(xs.zip vs).lookup x=vs[k]?:=by
 induction xs generalizing vs k with
 | nil=>cases h
 | cons y xs ih=>
  cases vs with
  | nil=>cases l
  | cons v vs=>
   rw[List.nodup_cons]at nd
   cases k with
   | zero=>cases h;rw[List.zip_cons_cons,List.lookup_cons,beq_self_eq_true];rfl
   | succ k=>
    have ne:(x==y)=false:=beq_eq_false_iff_ne.mpr fun q=>nd.1 (q▸List.mem_of_getElem? (i:=k) h)
    rw[List.zip_cons_cons,List.lookup_cons,ne]
    exact ih nd.2 h (Nat.succ.inj l)
theorem filterMap_lookup{α:Type}{f:Str→Option α}{xs:List Str}{vs:List α}(l:xs.length=vs.length)(h:∀ (k:Nat) x,xs[k]?=some x→f x=vs[k]?):xs.filterMap (fun n=>(f n).map (n,·))=xs.zip vs:=by
 induction xs generalizing vs with
 | nil=>rfl
 | cons x xs ih=>
  cases vs with
  | nil=>cases l
  | cons v vs=>
   have h0:f x=some v:=h 0 x rfl
   rw[List.filterMap_cons,h0]
   exact congrArg ((x,v) :: ·) (ih (Nat.succ.inj l) fun k y e=>h (k + 1) y e)
theorem bind_ok{p:Arguments}{name:Str}{body:List Stmt}{scope:Scope}{pm cd doc:Value}(h1:p.posonlyargs=[])(h2:p.vararg=none)(h3:p.kwonlyargs=[])(h4:p.kwarg=none){vs:List Value}(hl:vs.length=p.args.length)(nd:(p.args.map (·.arg)).Nodup):
  bindArgs (Calls.docDef name p body scope pm cd doc) ⟨vs,[]⟩=pure ((p.args.map (·.arg)).zip vs):=by
 obtain⟨po,as,va,ko,kd,kw,df⟩:=p
 cases h1;cases h2;cases h3;cases h4
 have hlx:(as.map (·.arg)).length=vs.length:=(List.length_map _).trans hl.symm
 have all:∀ (k:Nat) x,(as.map (·.arg))[k]?=some x→((as.map (·.arg)).zip vs).lookup x=vs[k]?:=fun k x e=>lookup_zip nd e hlx
 have hf:=filterMap_lookup hlx all
 have hmiss:(as.map (·.arg)).filter (fun n=>(((as.map (·.arg)).zip vs).lookup n).isNone)=[]:=List.filter_eq_nil_iff.mpr fun x m=>by
  obtain⟨k,hk⟩:=List.getElem?_of_mem m
  have:k < vs.length:=hlx▸(List.getElem?_eq_some_iff.mp hk).1
  rw[all k x hk,List.getElem?_eq_getElem this]
  exact Bool.false_ne_true
 unfold bindArgs
 simp only[Calls.docDef,List.map_nil,List.nil_append,List.append_nil,List.length_map,hl,List.forIn_nil,pure_bind]
 have e0:seqItems? Value.none=pure none:=rfl
 rw[e0]
 simp only[pure_bind,Option.getD_none,Nat.lt_irrefl,gt_iff_lt,decide_false,Bool.false_and,Bool.false_eq_true,if_false,List.length_nil,Nat.sub_zero,Nat.zero_sub,List.drop_nil,List.zip_nil_right,List.forIn_nil,Option.isSome_none]
 rw[List.take_of_length_le (Nat.le_of_eq (List.length_map _)),hmiss,hf];rfl
open K (R D DL X Orc Rec TgL)
variable{w:Pk}{A:Around}{s:Shared}{N N' N0 N1:Addr→Prop}{h h' hB hC:Heap}{c:Cx}{env:Env}{ρ:Rho}{ln:Option Addr}{o o':Nat→Addr}{z:V}{m:Md}
theorem bindL_not{kd:Str→Option NameKind}{l:List (Str × Value)}{m:Str→Option Value}{x:Str}(h:x∉l.map (·.1)):bindL kd l m x=m x:=by
 induction l generalizing m with
 | nil=>rfl
 | cons p r ih=>
  obtain⟨n,v⟩:=p
  rw[List.map_cons,List.mem_cons,not_or]at h
  refine(ih h.2).trans ?_
  by_cases q:kd n=some .local
  ·exact(congrFun (if_pos q) x).trans (if_neg h.1)
  ·exact congrFun (if_neg q) x
theorem bindC_not{kd:Str→Option NameKind}{l:List (Str × Value)}{m:Str→Option Value}{x:Str}(h:x∉l.map (·.1)):bindC kd l m x=m x:=by
 induction l generalizing m with
 | nil=>rfl
 | cons p r ih=>
  obtain⟨n,v⟩:=p
  rw[List.map_cons,List.mem_cons,not_or]at h
  refine(ih h.2).trans ?_
  by_cases q:kd n=some .local
  ·exact congrFun (if_pos q) x
  ·exact(congrFun (if_neg q) x).trans (if_neg h.1)
theorem zip_names{α:Type}{xs:List Str}{vs:List α}(h:xs.length=vs.length):(xs.zip vs).map (·.1)=xs:=fst_zip h
theorem bindL_at{kd:Str→Option NameKind}{xs:List Str}{vs:List Value}{m:Str→Option Value}{k:Nat}{x:Str}{v:Value}(nd:xs.Nodup)(l:xs.length=vs.length)(h1:xs[k]?=some x)(h2:vs[k]?=some v)(hk:kd x=some .local):bindL kd (xs.zip vs) m x=some v:=by
 induction xs generalizing vs m k with
 | nil=>cases h1
 | cons y xs ih=>
  cases vs with
  | nil=>cases l
  | cons u vs=>
   rw[List.nodup_cons]at nd
   cases k with
   | zero=>
    cases h1;cases h2
    refine(bindL_not (l:=xs.zip vs) (by rw[zip_names (Nat.succ.inj l)];exact nd.1)).trans ?_
    rw[if_pos hk];exact if_pos rfl
   | succ k=>exact ih nd.2 (Nat.succ.inj l) h1 h2
theorem bindC_at{kd:Str→Option NameKind}{xs:List Str}{vs:List Value}{m:Str→Option Value}{k:Nat}{x:Str}{v:Value}(nd:xs.Nodup)(l:xs.length=vs.length)(h1:xs[k]?=some x)(h2:vs[k]?=some v)(hk:kd x≠some .local):bindC kd (xs.zip vs) m x=some v:=by
 induction xs generalizing vs m k with
 | nil=>cases h1
 | cons y xs ih=>
  cases vs with
  | nil=>cases l
  | cons u vs=>
   rw[List.nodup_cons]at nd
   cases k with
   | zero=>
    cases h1;cases h2
    refine(bindC_not (l:=xs.zip vs) (by rw[zip_names (Nat.succ.inj l)];exact nd.1)).trans ?_
    rw[if_neg hk];exact if_pos rfl
   | succ k=>exact ih nd.2 (Nat.succ.inj l) h1 h2
noncomputable def okFn(c:Cx)(p:Arguments)(scope:Scope):Bool:=
 scope.kind == .function && !scope.isCoroutine && !scope.isGenerator&&scope.names.all (fun x=>!(x.1==s_debug) && !(x.1==s_classdict)&&(x.2 == .local || x.2 == .cell || x.2 == .globalImplicit)) &&
 (p.posonlyargs.isEmpty&&p.vararg.isNone&&p.kwonlyargs.isEmpty&&p.kwarg.isNone)&&nodupS (p.args.map (·.arg))&&(p.args.map (·.arg)).all (fun x=>scope.names.lookup x==some .local || scope.names.lookup x==some .cell) &&
 (c.ls.take p.args.length==p.args.map (·.arg))
structure OkFn(c:Cx)(p:Arguments)(scope:Scope):Prop where
 names:c.names=scope.names
 kind:scope.kind=.function
 co:scope.isCoroutine=false
 gen:scope.isGenerator=false
 nm:∀ x k,scope.names.lookup x=some k→(x==s_debug)=false∧(x==s_classdict)=false∧(k=.local∨k=.cell∨k=.globalImplicit)
 p1:p.posonlyargs=[]
 p2:p.vararg=none
 p3:p.kwonlyargs=[]
 p4:p.kwarg=none
 nd:(p.args.map (·.arg)).Nodup
 ps:∀ x∈p.args.map (·.arg),scope.names.lookup x=some .local∨scope.names.lookup x=some .cell
 ls:c.ls.take p.args.length=p.args.map (·.arg)
theorem okFn_ok{p:Arguments}{scope:Scope}(hn:c.names=scope.names)(h:okFn c p scope=true):OkFn c p scope:=by
 unfold okFn at h
 simp only[Bool.and_eq_true,Bool.not_eq_true',List.isEmpty_iff,Option.isNone_iff_eq_none,List.all_eq_true,Bool.or_eq_true]at h
 refine bc fun gG=>?_
 obtain⟨⟨⟨⟨⟨⟨⟨h1,h2⟩,h3⟩,h4⟩,h5⟩,h6⟩,h7⟩,h8⟩:=h
 refine gG ?_
 refine⟨hn,by simpa using h1,h2,h3,fun x k e=>?_,h5.1.1.1,h5.1.1.2,h5.1.2,h5.2,nodupS_ok h6,fun x m=>?_,by simpa using h8⟩
 ·obtain⟨⟨a,b⟩,d⟩:=h4 _ (mem_of_lookup e)
  refine⟨a,b,?_⟩
  rcases d with (d | d) | d
  ·exact .inl (by simpa using d)
  ·exact .inr (.inl (by simpa using d))
  ·exact .inr (.inr (by simpa using d))
 ·rcases h7 x m with d | d
  ·exact .inl (by simpa using d)
  ·exact .inr (by simpa using d)
noncomputable def ArgOk(w:Pk)(ln:Option Addr)(N:Addr→Prop)(h:Heap)(k:Nat)(v:Value):Sl→Prop
 | .un=>False
 | .va d=>Rb w N false h v d
 | .ow d=>k=0∧∃ L0,ln=some L0∧v=.ref L0∧Rb w N true h v d∧isCont d=true
theorem fn_start{name:Str}{p:Arguments}{scope:Scope}{a L:Addr}{cd:Value}{vs:List Value}{ρ0:Rho}{h0 h1:Heap}(K0:OkFn c p scope)(gB:GI w c.fns c.lits N0 hB)(l0:Live N0 hB)(kp:Kp hB h0)(n0:∀ a,N0 a→N a)(i0:∀ a,N a→N0 a∨hB.get? a=none)(lv:Live N h0)
  (hl:vs.length=p.args.length) (hr:ρ0.length=p.args.length) (H:∀ (k:Nat) v sl,vs[k]?=some v→ρ0[k]?=some sl→ArgOk w ln N h0 k v sl) (hL:∀ L0,ln=some L0→N L0∧hB.get? L0=none∧(∃ d,ρ0[0]?=some (.ow d))∧∃ x,c.slot x=some 0)
  (sz:L=h0.objs.size) (F:Fr h0 L h1 (bindL (envOfC name scope L a cd).kindOf ((p.args.map (·.arg)).zip vs) fun _=>none)) (X:Cl L (cellsFrom (L + 1) scope.names []) h1 (bindC (envOfC name scope L a cd).kindOf ((p.args.map (·.arg)).zip vs) fun _=>none)):
  FI w c (envOfC name scope L a cd) ln hB h0 N0 (fun _=>ln.getD 0) (fun b=>N b∨b=L∨∃ x,(cellsFrom (L + 1) scope.names []).lookup x=some b) (ρ0++List.replicate (c.ls.length - p.args.length) .un) h1:=by
 have kind:∀ x,(envOfC name scope L a cd).kindOf x=c.names.lookup x:=fun x=>by rw[K0.names];rfl
 have hlen:p.args.length≤c.ls.length:=by
  have:=congrArg List.length K0.ls
  rw[List.length_take,List.length_map]at this
  omega
 have cell0:∀ x b,(cellsFrom (L + 1) scope.names []).lookup x=some b→h0.get? b=none∧L < b:=fun x b e=>by
  have hb:=X.above x b (mem_of_lookup e)
  refine⟨?_,hb⟩
  cases q:h0.get? b with
  | none=>rfl
  | some ob=>exact absurd (Heap.lt_size q) (Nat.not_lt.mpr (by rw[← sz];exact Nat.le_of_lt hb))
 have zL:h0.get? L=none:=by rw[sz];exact none_size _
 have new:∀ b,(N b∨b=L∨∃ x,(cellsFrom (L + 1) scope.names []).lookup x=some b)→N b∨h0.get? b=none:=fun b q=>q.elim .inl fun q=>.inr (q.elim (fun e=>e▸zL) fun ⟨x,e⟩=>(cell0 x b e).1)
 have dB:∀ b,h0.get? b=none→hB.get? b=none:=fun b e=>dead kp e
 have getρ:∀ (i:Nat) sl,(ρ0++List.replicate (c.ls.length - p.args.length) Sl.un)[i]?=some sl→sl=.un∨(i < p.args.length∧ρ0[i]?=some sl):=fun i sl e=>by
  rcases Nat.lt_or_ge i ρ0.length with q | q
  ·rw[List.getElem?_append_left q]at e;exact .inr ⟨by omega,e⟩
  ·rw[List.getElem?_append_right q]at e
   obtain⟨_,q⟩:=List.getElem?_eq_some_iff.mp e
   rw[List.getElem_replicate]at q;exact .inl q.symm
 have par:∀ x i,c.slot x=some i→i < p.args.length→(p.args.map (·.arg))[i]?=some x:=fun x i e q=>by
  have:=slot_get e
  rw[← K0.ls,List.getElem?_take_of_lt q];exact this
 have look:∀ x i v,c.slot x=some i→i < p.args.length→vs[i]?=some v→Look (envOfC name scope L a cd) h1 x v:=fun x i v e q ev=>by
  have hx:=par x i e q
  have hl':(p.args.map (·.arg)).length=vs.length:=by rw[List.length_map,hl]
  rcases K0.ps x (List.mem_of_getElem? hx) with k | k
  ·exact .inl ⟨k,_,F.ns,bindL_at K0.nd hl' hx ev k⟩
  ·obtain⟨b,eb⟩:=cellsFrom_some scope.names (L + 1) [] x (.inl (mem_of_lookup k))
   refine .inr ⟨.inl k,b,eb,?_⟩
   have:=X.cell x b eb
   rwa [bindC_at K0.nd hl' hx ev (by show scope.names.lookup x≠_;rw[k];intro q;cases q)]at this
 have vget:∀ i,i < p.args.length→∃ v,vs[i]?=some v:=fun i q=>⟨vs[i]'(by omega),List.getElem?_eq_getElem _⟩
 have own:∀ i d,(ρ0++List.replicate (c.ls.length - p.args.length) Sl.un)[i]?=some (.ow d)→i=0∧∃ L0,ln=some L0∧vs[i]?=some (.ref L0)∧Rb w N true h0 (.ref L0) d∧isCont d=true∧i < p.args.length:=fun i d e=>by
  rcases getρ i _ e with q | ⟨q1,q2⟩
  ·cases q
  ·refine bc fun gG=>?_
   obtain⟨v,hv⟩:=vget i q1
   obtain⟨r1,L0,r2,r3,r4,r5⟩:=H i v _ hv q2
   refine gG ?_
   subst r3
   exact⟨r1,L0,r2,hv,r4,r5,q1⟩
 refine⟨⟨K0.kind,rfl,rfl,fun x e=>by rw[kind];exact e,fun x e=>by rw[kind];exact e,fun x e=>?_,fun x e=>by rw[kind];exact e,fun x k e=>?_⟩,?_,?_,?_,fun x b e=>⟨_,X.cell x b e⟩,fun x y b e e'=>name_of_addr X.apart (mem_of_lookup e) (mem_of_lookup e'),gB,fun b ob e=>F.keep _ _ (kp _ _ e),kp,fun b ob _ e=>F.keep _ _ e,fun L0 e=>(hL L0 e).2.1,fun b q=>.inl (n0 b q),l0,fun b q=>(new b q).elim (i0 b) fun e=>.inr (dB b e),⟨_,F.ns⟩,⟨.inr (.inl rfl),zL⟩,fun x b e=>⟨.inr (.inr ⟨x,e⟩),(cell0 x b e).1,Nat.ne_of_gt (cell0 x b e).2⟩,?_,?_,?_,?_,?_⟩
 ·rw[K0.names]at e
  have:scope.names.lookup x=some .cell:=by
   rcases e with e | e
   ·exact e
   ·rcases (K0.nm x _ e).2.2 with q | q | q <;> cases q
  exact cellsFrom_some scope.names (L + 1) [] x (.inl (mem_of_lookup this))
 ·rw[K0.names]at e
  obtain⟨q1,q2,_⟩:=K0.nm x k e
  rw[debug_eq]at q1
  rw[classdict_eq]at q2
  exact⟨q1,q2⟩
 ·intro x i sl hs hi
  rcases getρ i sl hi with rfl | ⟨q1,q2⟩
  ·trivial
  ·obtain⟨v,hv⟩:=vget i q1
   have A:=H i v sl hv q2
   cases sl with
   | un=>trivial
   | va d=>exact⟨v,look x i v hs q1 hv,(Rb.more new A).keeps F.keep⟩
   | ow d=>
    refine bc fun gG=>?_
    obtain⟨_,L0,_,rfl,r,_⟩:=A
    refine gG ?_
    exact⟨L0,look x i _ hs q1 hv,(r.more new).keeps F.keep⟩
 ·rintro b (q | rfl | ⟨x,e⟩)
  ·obtain⟨ob,e⟩:=lv b q;exact⟨ob,F.keep _ _ e⟩
  ·obtain⟨ob,e,_⟩:=ns_live F.ns;exact⟨ob,e⟩
  ·obtain⟨ob,e,_⟩:=cell_live (X.cell x b e);exact⟨ob,e⟩
 ·rw[List.length_append,List.length_replicate];omega
 ·intro x i hs
  obtain⟨k,hk,hk2⟩:=slot_kind hs
  rw[kind,hk]
  rcases hk2 with rfl | rfl | rfl
  ·exact .inl rfl
  ·exact .inr rfl
  ·rw[K0.names]at hk
   rcases (K0.nm x _ hk).2.2 with q | q | q <;> cases q
 ·intro x i d hs hi
  refine bc fun gG=>?_
  obtain⟨rfl,L0,rfl,hv,r,_,q⟩:=own i d hi
  refine gG ?_
  exact⟨look x 0 _ hs q hv,(r.more new).keeps F.keep⟩
 ·intro i d hi
  refine bc fun gG=>?_
  obtain⟨rfl,L0,rfl,hv,r,hc,q⟩:=own i d hi
  obtain⟨a1,a2,a3,x,a4⟩:=hL L0 rfl
  obtain⟨ob,eo,_⟩:=own_notT hc r
  refine gG ?_
  refine⟨.inl a1,.inr rfl,fun e=>?_,fun x b e e'=>?_,hc,x,a4⟩
  ·have e:L0=L:=e
   rw[e,zL]at eo;cases eo
  ·have e':L0=b:=e'
   rw[e',(cell0 x b e).1]at eo;cases eo
 ·intro i j d d' hi hj _
  rw[(own i d hi).1,(own j d' hj).1]
 ·intro L0 e
  subst e
  refine bc fun gG=>?_
  obtain⟨_,_,⟨d,ed⟩,_⟩:=hL L0 rfl
  refine gG ?_
  refine⟨rfl,d,?_⟩
  rw[List.getElem?_append_left]
  ·exact ed
  ·rcases Nat.lt_or_ge 0 ρ0.length with q | q
   ·exact q
   ·rw[List.getElem?_eq_none q]at ed;cases ed
end
end Mine
end
noncomputable section
open PySem PySem.W PyProof.Rows
namespace Mine
open K (R D DL X Orc Rec TgL)
variable{w:Pk}{A:Around}{s:Shared}{N N' N0 N1:Addr→Prop}{h h' hB hC:Heap}{c:Cx}{env:Env}{ρ:Rho}{ln:Option Addr}{o o':Nat→Addr}{z:V}{m:Md}{O OL:Orc}
noncomputable def FnAt(w:Pk)(f:Str)(p:Arguments)(body:List Stmt)(scope:Scope):Prop:=∃ a o pm cd doc,w.fn f=some (.ref a)∧w.base.get? a=some o∧o.data=.func (Calls.docDef f p body scope pm cd doc)∧w.base.CodeRec cd f
noncomputable def fnA(n un:Nat)(b:X)(xs:List V):R:=K.ifB (Nat.beq (K.lenK xs) n) (K.fnK un b xs) none
noncomputable def lnA(n un:Nat)(b:X)(xs:List V):R:=K.ifB (Nat.beq (K.lenK xs) n) (K.lnK un b xs) none
theorem unsK_eq(n:Nat)(k:Rho→R):K.unsK n k=k (List.replicate n .un):=by
 induction n generalizing k with
 | zero=>rfl
 | succ n ih=>show K.unsK n (fun r=>k (.un::r))=_;rw[ih];rfl
theorem rhoK_eq(xs:List V)(un:Nat)(k:Rho→R):K.rhoK xs un k=k (xs.map .va++List.replicate un .un):=by
 induction xs generalizing k with
 | nil=>exact unsK_eq un k
 | cons x xs ih=>show K.rhoK xs un (fun r=>k (.va x::r))=_;rw[ih];rfl
theorem ifB_eq{b:Bool}{x:R}(h:K.ifB b x none=some z):b=true∧x=some z:=K.ifB_then h
theorem call_fn{f:Str}{p:Arguments}{body:List Stmt}{scope:Scope}{a:Addr}{vs:List Value}{R:Result→Shared→Prop}(hroom:A.depth < recursionLimit)(hlim:w.base.NoLimit)(hf:FnAt w f p body scope)(K0:OkFn c p scope)(ha:w.fn f=some (.ref a))(kb:Kp w.base s.heap)(hl:vs.length=p.args.length)
  (H:∀ cd h₁ tk,Fr s.heap s.heap.objs.size h₁ (bindL (envOfC f scope s.heap.objs.size a cd).kindOf ((p.args.map (·.arg)).zip vs) fun _=>none)→Cl s.heap.objs.size (cellsFrom (s.heap.objs.size + 1) scope.names []) h₁ (bindC (envOfC f scope s.heap.objs.size a cd).kindOf ((p.args.map (·.arg)).zip vs) fun _=>none)→
   wpAny (model prog w.w) (A.deeper (envOfC f scope s.heap.objs.size a cd)) (execs body (envOfC f scope s.heap.objs.size a cd)) (fun f s'=>R (.ok (.ret (match f with | .ret v=>v | _=>.none))) s') (fun _ _=>False) (sx s h₁ tk)):
  codeAny (model prog w.w) A (.call (.ref a) ⟨vs,[]⟩) R s:=by
 refine bc fun gG=>?_
 obtain⟨a',ob,pm,cd,doc,e1,e2,e3,e4⟩:=hf
 refine gG ?_
 rw[ha]at e1
 cases e1
 refine call_cells_ret hroom (kb _ _ e2) e3 (hlim.keeps kb) (e4.keeps kb) (bind_ok K0.p1 K0.p2 K0.p3 K0.p4 hl K0.nd) (fun x mx=>?_) (fun h₁ tk F X=>H cd h₁ tk F X) K0.co K0.gen K0.kind
 have mx':x.1∈p.args.map (·.arg):=by
  have:=List.mem_map_of_mem (f:=(·.1)) mx
  rwa [zip_names (by rw[List.length_map,hl])]at this
 rcases K0.ps _ mx' with q | q
 ·exact .inl q
 ·obtain⟨b,eb⟩:=cellsFrom_some scope.names (s.heap.objs.size + 1) [] x.1 (.inl (mem_of_lookup q))
  exact .inr ⟨q,by rw[eb];rfl⟩
theorem fn_right{f:Str}{p:Arguments}{body:List Stmt}{scope:Scope}{xs:List V}{k n:Nat}(hh:A.handled=none)(hroom:A.depth < recursionLimit)(hu:A.units + 90 < cLine)(hlim:w.base.NoLimit)(hf:FnAt w f p body scope)(K0:OkFn c p scope)
  (hc:∀ env,CallOk w (A.deeper env) O c.fns c.lits c.fresh) (hL:∀ env,LendOk w (A.deeper env) OL c.fns c.lits) (hm:m.ln=false) (hfr:c.fresh.contains f=true→m.fr=true)
  (hz:fnA p.args.length (c.ls.length - p.args.length) (blk (cS OL (K.cE O (k + 1)) m c n) body) xs=some z):Right w A c.fns c.lits c.fresh f xs z:=by
 intro a fr N s vs Q ha gi lv rr hfresh out
 obtain⟨hb,hz⟩:=ifB_eq hz
 have hxl:xs.length=p.args.length:=by rw[K.lenK_eq]at hb;exact Nat.eq_of_beq_eq_true hb
 have hz:K.rhoK xs (c.ls.length - p.args.length) (fun ρ=>blk (cS OL (K.cE O (k + 1)) m c n) body (fun _=>none) (fun _=>some .none) ρ)=some z:=hz
 rw[rhoK_eq]at hz
 have hl:vs.length=p.args.length:=by rw[All2.length rr,hxl]
 refine wpAny_call (call_fn hroom hlim hf K0 ha gi.base hl fun cd h₁ tk F X=>?_)
 have FF:=fn_start (ρ0:=xs.map Sl.va) (ln:=none) (N0:=N) (N:=N) K0 gi lv (Kp.refl _) (fun _ q=>q) (fun _ q=>.inl q) lv hl (by rw[List.length_map,hxl]) (fun k v sl ev es=>by
  rw[List.getElem?_map,Option.map_eq_some_iff]at es
  refine bc fun gG=>?_
  obtain⟨d,hd,rfl⟩:=es
  obtain⟨d',hd',r⟩:=all2_at rr ev
  refine gG ?_
  rw[hd]at hd';cases hd';exact r) (fun L0 q=>nomatch q) rfl F X
 refine blk_ok (fun st=>cS_ok (A:=A.deeper _) (m:=m) (c:=c) (k:=k) hh (by show A.units + 3 + 80 < cLine;omega) (hc _) (hL _) n st) body _ none _ _ N _ _ _ (sx s h₁ tk) z _ _ _ (fun _=>rfl) FF hz fun fl h' tk' P=>?_
 cases fl with
 | next=>
  refine bc fun gG=>?_
  obtain⟨o,N',ρ,F',e⟩:=P
  refine gG ?_
  cases e
  exact out .none h' tk' F'.kp (rb_none _ _) fun _ q=>nomatch q
 | cont=>
  refine bc fun gG=>?_
  obtain⟨o,N',ρ,F',e⟩:=P
  refine gG ?_
  cases e
 | ret v=>
  refine bc fun gG=>?_
  obtain⟨_,r,_,kp,fr'⟩:=P
  refine gG ?_
  exact out v h' tk' kp r fun q zc=>fr' (hfr (hfresh q)) zc
 | brk=>exact P.elim
theorem ln_right{f:Str}{p:Arguments}{body:List Stmt}{scope:Scope}{x:V}{ds:List V}{k n:Nat}(hh:A.handled=none)(hroom:A.depth < recursionLimit)(hu:A.units + 90 < cLine)(hlim:w.base.NoLimit)(hf:FnAt w f p body scope)(K0:OkFn c p scope)(hx0:∃ x,c.slot x=some 0)
  (hc:∀ env,CallOk w (A.deeper env) O c.fns c.lits c.fresh) (hL:∀ env,LendOk w (A.deeper env) OL c.fns c.lits) (hm:m.ln=true)
  (hz:lnA p.args.length (c.ls.length - p.args.length) (blk (cS OL (K.cE O (k + 1)) m c n) body) (x::ds)=some z):LRight w A c.fns c.lits f x ds z:=by
 intro a L0 N0 N hB s vs Q ha gi l0 kp dL n0 i0 lv nL rx hcx rr out
 obtain⟨hb,hz⟩:=ifB_eq hz
 have hxl:ds.length + 1=p.args.length:=by rw[K.lenK_eq]at hb;exact Nat.eq_of_beq_eq_true hb
 have hz:K.rhoK ds (c.ls.length - p.args.length) (fun ρ=>blk (cS OL (K.cE O (k + 1)) m c n) body (fun _=>none) (fun ρ=>K.getK Nat.zero ρ fun s=>K.eSlO s some) (.ow x :: ρ))=some z:=hz
 rw[rhoK_eq]at hz
 have hl:(Value.ref L0::vs).length=p.args.length:=by rw[List.length_cons,All2.length rr,hxl]
 have kc:Kp hB (cut (fun b=>b=L0) s.heap):=fun b ob e=>by
  rw[cut_some fun q=>by subst q;rw[dL]at e;cases e];exact kp b ob e
 have gi':GI w c.fns c.lits (fun b=>N b∧b≠L0) (cut (fun b=>b=L0) s.heap):=(gi.more fun b q=>i0 b q.1).keeps kc
 have ii:∀ b,N b→(N b∧b≠L0)∨(cut (fun b=>b=L0) s.heap).get? b=none:=fun b q=>by
  by_cases e:b=L0
  ·exact .inr (cut_none e)
  ·exact .inl ⟨q,e⟩
 refine wpAny_call (call_fn hroom hlim hf K0 ha (gi.base.trans kp) hl fun cd h₁ tk F X=>?_)
 have FF:=fn_start (ρ0:=.ow x::ds.map Sl.va) (ln:=some L0) (N0:=fun b=>N b∧b≠L0) (N:=N) K0 gi' (fun b q=>by obtain⟨ob,e⟩:=lv b q.1;exact⟨ob,by rw[cut_some (W:=fun b=>b=L0) q.2];exact e⟩) cut_kp (fun _ q=>q.1) ii lv hl (by rw[List.length_cons,List.length_map,hxl]) (fun k v sl ev es=>by
  cases k with
  | zero=>
   simp at ev es
   subst ev es
   exact⟨rfl,L0,rfl,rfl,rx,hcx⟩
  | succ k=>
   rw[List.getElem?_cons_succ]at ev es
   rw[List.getElem?_map,Option.map_eq_some_iff]at es
   refine bc fun gG=>?_
   obtain⟨d,hd,rfl⟩:=es
   obtain⟨d',hd',r⟩:=all2_at rr ev
   refine gG ?_
   rw[hd]at hd';cases hd';exact r) (fun L1 q=>by cases q;exact⟨nL,cut_none rfl,⟨x,rfl⟩,hx0⟩) rfl F X
 refine blk_ok (fun st=>cS_ok (A:=A.deeper _) (m:=m) (c:=c) (k:=k) hh (by show A.units + 3 + 80 < cLine;omega) (hc _) (hL _) n st) body _ (some L0) _ _ _ _ _ _ (sx s h₁ tk) z _ _ _ (fun q=>by rw[hm]at q;cases q) FF hz fun fl h' tk' P=>?_
 cases fl with
 | next=>
  refine bc fun gG=>?_
  obtain⟨o,N',ρ,F',e⟩:=P
  obtain⟨sl,hs,e⟩:=K.getK_some e
  obtain⟨d,rfl,e⟩:=K.eSlO_some e
  refine gG ?_
  cases e
  refine bc fun gG=>?_
  obtain⟨eo,_⟩:=F'.lent L0 rfl
  obtain⟨q1,_,_,_,q5,y,hy⟩:=F'.ownN 0 _ hs
  obtain⟨_,r⟩:=F'.own y 0 _ hy hs
  refine gG ?_
  rw[eo]at r q1
  refine out h' tk' (fun b ob nb e=>F'.kc b ob (fun q=>nb (by cases q;rfl)) e) (r.less fun b q=>?_) q5
  by_cases e:b=L0
  ·subst e;exact q1
  ·exact F'.n0 b ⟨q,e⟩
 | cont=>
  refine bc fun gG=>?_
  obtain⟨o,N',ρ,F',e⟩:=P
  refine gG ?_
  cases e
 | ret v=>
  obtain⟨q,_⟩:=P
  cases q
 | brk=>exact P.elim
end Mine
end
noncomputable section
open PySem
namespace Mine
open K
noncomputable def F0:List V→R:=fnA 2 0 (xSeq (xAsgL (gnm 0 false (gnm 1 false gnil)) (cons (cBi .abs (cons (cN true 0) nil)) (cons (cBi .abs (cons (cN true 1) nil)) nil))) (xSeq (xWhl 1000 (cCmp .NotEq (cN true 1) (cLit (.int (.ofNat .zero)))) (xSeq (xAsgL (gnm 0 false (gnm 1 false gnil)) (cons (cN false 1) (cons (cBin .Mod (cN false 0) (cN false 1)) nil))) xNil)) (xSeq (xRet (cN false 0)) xNil)))
noncomputable def F1:List V→R:=fnA 1 2 (xSeq (xAsg 1 false (cLit (.int (.ofNat .zero)))) (xSeq (xFor [2] 0 (cons (cN false 0) nil) (xSeq (xAsg 1 false (cCall F0 (cons (cN false 1) (cons (cN false 2) nil)))) xNil)) (xSeq (xRet (cN false 1)) xNil)))
noncomputable def F2:List V→R:=fnA 2 1 (xSeq (xIte (cCmp .Eq (cN true 1) (cLit (.int (.ofNat .zero)))) (xSeq xStuck xNil) xNil) (xSeq (xAsg 2 false (cIte (cCmp .Gt (cN true 1) (cLit (.int (.ofNat .zero)))) (cCall F0 (cons (cN false 0) (cons (cN false 1) nil))) (cBin .Sub (cLit (.int (.ofNat .zero))) (cCall F0 (cons (cN false 0) (cons (cN false 1) nil)))))) (xSeq (xRet (cTup (cons (cBin .FloorDiv (cN false 0) (cN false 2)) (cons (cBin .FloorDiv (cN false 1) (cN false 2)) nil)))) xNil)))
noncomputable def F3:List V→R:=fnA 2 0 (xSeq (xRet (cCall F2 (cons (cBin .Add (cBin .Mult (cSub (cN true 0) (cLit (.int (.ofNat .zero)))) (cSub (cN true 1) (cLit (.int (.ofNat (.succ (nat_lit 0))))))) (cBin .Mult (cSub (cN true 1) (cLit (.int (.ofNat .zero)))) (cSub (cN true 0) (cLit (.int (.ofNat (.succ (nat_lit 0)))))))) (cons (cBin .Mult (cSub (cN true 0) (cLit (.int (.ofNat (.succ (nat_lit 0)))))) (cSub (cN true 1) (cLit (.int (.ofNat (.succ (nat_lit 0))))))) nil)))) xNil)
noncomputable def F4:List V→R:=fnA 2 0 (xSeq (xRet (cCall F2 (cons (cBin .Sub (cBin .Mult (cSub (cN true 0) (cLit (.int (.ofNat .zero)))) (cSub (cN true 1) (cLit (.int (.ofNat (.succ (nat_lit 0))))))) (cBin .Mult (cSub (cN true 1) (cLit (.int (.ofNat .zero)))) (cSub (cN true 0) (cLit (.int (.ofNat (.succ (nat_lit 0)))))))) (cons (cBin .Mult (cSub (cN true 0) (cLit (.int (.ofNat (.succ (nat_lit 0)))))) (cSub (cN true 1) (cLit (.int (.ofNat (.succ (nat_lit 0))))))) nil)))) xNil)
noncomputable def F5:List V→R:=fnA 2 0 (xSeq (xRet (cCall F2 (cons (cBin .Mult (cSub (cN true 0) (cLit (.int (.ofNat .zero)))) (cSub (cN true 1) (cLit (.int (.ofNat .zero))))) (cons (cBin .Mult (cSub (cN true 0) (cLit (.int (.ofNat (.succ (nat_lit 0)))))) (cSub (cN true 1) (cLit (.int (.ofNat (.succ (nat_lit 0))))))) nil)))) xNil)
noncomputable def F6:List V→R:=fnA 2 0 (xSeq (xRet (cCall F2 (cons (cBin .Mult (cSub (cN true 0) (cLit (.int (.ofNat .zero)))) (cSub (cN true 1) (cLit (.int (.ofNat (.succ (nat_lit 0))))))) (cons (cBin .Mult (cSub (cN true 0) (cLit (.int (.ofNat (.succ (nat_lit 0)))))) (cSub (cN true 1) (cLit (.int (.ofNat .zero))))) nil)))) xNil)
noncomputable def F7:List V→R:=fnA 1 0 (xSeq (xRet (cTup (cons (cBin .Sub (cLit (.int (.ofNat .zero))) (cSub (cN true 0) (cLit (.int (.ofNat .zero))))) (cons (cSub (cN true 0) (cLit (.int (.ofNat (.succ (nat_lit 0)))))) nil)))) xNil)
noncomputable def F8:List V→R:=fnA 1 0 (xSeq (xRet (cCall F2 (cons (cSub (cN true 0) (cLit (.int (.ofNat (.succ (nat_lit 0)))))) (cons (cSub (cN true 0) (cLit (.int (.ofNat .zero)))) nil)))) xNil)
noncomputable def F9:List V→R:=fnA 2 1 (xSeq (xIte (cCmp .Lt (cN true 1) (cLit (.int (.ofNat .zero)))) (xSeq (xAsgL (gnm 0 false (gnm 1 false gnil)) (cons (cCall F8 (cons (cN false 0) nil)) (cons (cBin .Sub (cLit (.int (.ofNat .zero))) (cN false 1)) nil))) xNil) xNil) (xSeq (xAsg 2 false (cBi .max (cons (cBi .abs (cons (cSub (cN true 0) (cLit (.int (.ofNat .zero)))) nil)) (cons (cSub (cN true 0) (cLit (.int (.ofNat (.succ (nat_lit 0)))))) nil)))) (xSeq (xIte (cAnd2 (cCmp .Gt (cN true 1) (cLit (.int (.ofNat (.succ (nat_lit 0)))))) (cAnd2 (cCmp .Gt (cN true 2) (cLit (.int (.ofNat (.succ (nat_lit 0)))))) (cCmp .Gt (cBin .Mult (cN false 1) cStuck) (cLit (.int (.ofNat (.succ (nat_lit 199999)))))))) (xSeq xStuck xNil) xNil) (xSeq (xRet (cTup (cons (cBin .Pow (cSub (cN true 0) (cLit (.int (.ofNat .zero)))) (cN false 1)) (cons (cBin .Pow (cSub (cN true 0) (cLit (.int (.ofNat (.succ (nat_lit 0)))))) (cN false 1)) nil)))) xNil))))
noncomputable def F10:List V→R:=fnA 2 1 (xSeq (xAsg 2 false (cCall F2 (cons (cN false 0) (cons (cN false 1) nil)))) (xSeq (xRet (cTup (cons (cLit (.str ⟨⟨[nat_lit 110,nat_lit 117,nat_lit 109]⟩⟩)) (cons (cSub (cN true 2) (cLit (.int (.ofNat .zero)))) (cons (cSub (cN true 2) (cLit (.int (.ofNat (.succ (nat_lit 0)))))) nil))))) xNil))
noncomputable def F11:List V→R:=fnA 1 0 (xSeq (xRet (cTup (cons (cLit (.str ⟨⟨[nat_lit 115,nat_lit 121,nat_lit 109]⟩⟩)) (cons (cN false 0) nil)))) xNil)
noncomputable def F12:List V→R:=fnA 1 0 (xSeq (xIte (cCmp .Eq (cBi .len (cons (cN true 0) nil)) (cLit (.int (.ofNat .zero)))) (xSeq (xRet (cLit (.tuple [(.str ⟨⟨[nat_lit 110,nat_lit 117,nat_lit 109]⟩⟩),(.int (.ofNat .zero)),(.int (.ofNat (.succ (nat_lit 0))))]))) xNil) xNil) (xSeq (xRet (cIte (cCmp .Eq (cBi .len (cons (cN true 0) nil)) (cLit (.int (.ofNat (.succ (nat_lit 0)))))) (cSub (cN true 0) (cLit (.int (.ofNat .zero)))) (cTup (cons (cLit (.str ⟨⟨[nat_lit 115,nat_lit 117,nat_lit 109]⟩⟩)) (cons (cBi .tuple (cons (cN true 0) nil)) nil))))) xNil))
noncomputable def F13:List V→R:=fnA 1 0 (xSeq (xIte (cCmp .Eq (cBi .len (cons (cN true 0) nil)) (cLit (.int (.ofNat .zero)))) (xSeq (xRet (cLit (.tuple [(.str ⟨⟨[nat_lit 110,nat_lit 117,nat_lit 109]⟩⟩),(.int (.ofNat (.succ (nat_lit 0)))),(.int (.ofNat (.succ (nat_lit 0))))]))) xNil) xNil) (xSeq (xRet (cIte (cCmp .Eq (cBi .len (cons (cN true 0) nil)) (cLit (.int (.ofNat (.succ (nat_lit 0)))))) (cSub (cN true 0) (cLit (.int (.ofNat .zero)))) (cTup (cons (cLit (.str ⟨⟨[nat_lit 112,nat_lit 114,nat_lit 111,nat_lit 100]⟩⟩)) (cons (cBi .tuple (cons (cN true 0) nil)) nil))))) xNil))
noncomputable def F14:List V→R:=fnA 2 0 (xSeq (xRet (cTup (cons (cLit (.str ⟨⟨[nat_lit 112,nat_lit 111,nat_lit 119]⟩⟩)) (cons (cN false 0) (cons (cN false 1) nil))))) xNil)
noncomputable def F15:List V→R:=fnA 1 0 (xSeq (xRet (cCmp .Eq (cSub (cN true 0) (cLit (.int (.ofNat .zero)))) (cLit (.str ⟨⟨[nat_lit 110,nat_lit 117,nat_lit 109]⟩⟩)))) xNil)
noncomputable def F16:List V→R:=fnA 1 0 (xSeq (xRet (cTup (cons (cSub (cN true 0) (cLit (.int (.ofNat (.succ (nat_lit 0)))))) (cons (cSub (cN true 0) (cLit (.int (.ofNat (.succ (nat_lit 1)))))) nil)))) xNil)
noncomputable def F17:List V→R:=fnA 1 0 (xSeq (xRet (cAnd2 (cCmp .Eq (cSub (cN true 0) (cLit (.int (.ofNat .zero)))) (cLit (.str ⟨⟨[nat_lit 110,nat_lit 117,nat_lit 109]⟩⟩))) (cCmp .Eq (cSub (cN true 0) (cLit (.int (.ofNat (.succ (nat_lit 1)))))) (cLit (.int (.ofNat (.succ (nat_lit 0)))))))) xNil)
noncomputable def F18:List V→R:=fnA 1 1 (xSeq (xAsg 1 false (cSub (cN true 0) (cLit (.int (.ofNat .zero))))) (xSeq (xIte (cCmp .In (cN true 1) (cTup (cons (cLit (.str ⟨⟨[nat_lit 115,nat_lit 117,nat_lit 109]⟩⟩)) (cons (cLit (.str ⟨⟨[nat_lit 112,nat_lit 114,nat_lit 111,nat_lit 100]⟩⟩)) (cons (cLit (.str ⟨⟨[nat_lit 108,nat_lit 105,nat_lit 115,nat_lit 116]⟩⟩)) nil))))) (xSeq (xRet (cBi .list (cons (cSub (cN true 0) (cLit (.int (.ofNat (.succ (nat_lit 0)))))) nil))) xNil) xNil) (xSeq (xIte (cCmp .In (cN true 1) (cTup (cons (cLit (.str ⟨⟨[nat_lit 112,nat_lit 111,nat_lit 119]⟩⟩)) (cons (cLit (.str ⟨⟨[nat_lit 101,nat_lit 113]⟩⟩)) nil)))) (xSeq (xRet (cList (cons (cSub (cN true 0) (cLit (.int (.ofNat (.succ (nat_lit 0)))))) (cons (cSub (cN true 0) (cLit (.int (.ofNat (.succ (nat_lit 1)))))) nil)))) xNil) xNil) (xSeq (xRet (cIte (cCmp .Eq (cN true 1) (cLit (.str ⟨⟨[nat_lit 99,nat_lit 97,nat_lit 108,nat_lit 108]⟩⟩))) (cBi .list (cons (cSub (cN true 0) (cLit (.int (.ofNat (.succ (nat_lit 1)))))) nil)) (cList nil))) xNil))))
noncomputable def F19:List V→R:=fnA 1 3 (xSeq (xAsgL (gnm 1 true (gnm 2 true gnil)) (cons (cList (cons (cN false 0) nil)) (cons (cList nil) nil))) (xSeq (xWhl 1000 (cCmp .Gt (cBi .len (cons (cN true 1) nil)) (cLit (.int (.ofNat .zero)))) (xSeq (xPop 3 1) (xSeq (xApp 2 (cN false 3)) (xSeq (xExt 1 (cRev (cCall F18 (cons (cN false 3) nil)))) xNil)))) (xSeq (xFrz [2] (xRet (cN false 2))) xNil)))
noncomputable def F20:List V→R:=fnA 1 0 (xSeq (xRet (cBi .sorted (cons (cDcomp (cSub (cN true 1) (cLit (.int (.ofNat (.succ (nat_lit 0)))))) (cLit (.bool true)) (cCall F19 (cons (cN false 0) nil)) (tcons (cCmp .Eq (cSub (cN true 1) (cLit (.int (.ofNat .zero)))) (cLit (.str ⟨⟨[nat_lit 115,nat_lit 121,nat_lit 109]⟩⟩))) tnil)) nil))) xNil)
noncomputable def F21:List V→R:=fnA 2 0 (xSeq (xRet (cCmp .In (cN true 1) (cCall F20 (cons (cN false 0) nil)))) xNil)
noncomputable def F22:List V→R:=fnA 2 0 (xSeq (xIte (cCmp .Eq (cN true 0) (cN true 1)) (xSeq (xRet (cLit (.int (.ofNat .zero)))) xNil) xNil) (xSeq (xRet (cIte (cCmp .Lt (cN true 0) (cN true 1)) (cNeg (cLit (.int (.ofNat (.succ (nat_lit 0)))))) (cLit (.int (.ofNat (.succ (nat_lit 0))))))) xNil))
noncomputable def F23:List V→R:=fnA 2 0 (xSeq (xRet (cCall F22 (cons (cBin .Mult (cSub (cN true 0) (cLit (.int (.ofNat .zero)))) (cSub (cN true 1) (cLit (.int (.ofNat (.succ (nat_lit 0))))))) (cons (cBin .Mult (cSub (cN true 1) (cLit (.int (.ofNat .zero)))) (cSub (cN true 0) (cLit (.int (.ofNat (.succ (nat_lit 0))))))) nil)))) xNil)
noncomputable def F24:List V→R:=fnA 1 0 (xSeq (xIte (cCmp .NotEq (cSub (cN true 0) (cLit (.int (.ofNat .zero)))) (cLit (.str ⟨⟨[nat_lit 112,nat_lit 114,nat_lit 111,nat_lit 100]⟩⟩))) (xSeq (xRet (cList (cons (cN false 0) nil))) xNil) xNil) (xSeq (xRet (cComp (cN false 1) 0 (cons (cSub (cN true 0) (cLit (.int (.ofNat (.succ (nat_lit 0)))))) nil) (tcons (cNot (cCall F15 (cons (cN false 1) nil))) tnil))) xNil))
noncomputable def F25:List V→R:=fnA 1 0 (xSeq (xIte (cAnd2 (cCmp .Eq (cSub (cN true 0) (cLit (.int (.ofNat .zero)))) (cLit (.str ⟨⟨[nat_lit 112,nat_lit 114,nat_lit 111,nat_lit 100]⟩⟩))) (cCall F15 (cons (cSub (cSub (cN true 0) (cLit (.int (.ofNat (.succ (nat_lit 0)))))) (cLit (.int (.ofNat .zero)))) nil))) (xSeq (xRet (cCall F16 (cons (cSub (cSub (cN true 0) (cLit (.int (.ofNat (.succ (nat_lit 0)))))) (cLit (.int (.ofNat .zero)))) nil))) xNil) xNil) (xSeq (xRet (cTup (cons (cLit (.int (.ofNat (.succ (nat_lit 0))))) (cons (cLit (.int (.ofNat (.succ (nat_lit 0))))) nil)))) xNil))
noncomputable def F26:List V→R:=fnA 1 0 (xSeq (xRet (cIte (cCmp .Eq (cSub (cN true 0) (cLit (.int (.ofNat .zero)))) (cLit (.str ⟨⟨[nat_lit 112,nat_lit 111,nat_lit 119]⟩⟩))) (cTup (cons (cSub (cN true 0) (cLit (.int (.ofNat (.succ (nat_lit 0)))))) (cons (cSub (cN true 0) (cLit (.int (.ofNat (.succ (nat_lit 1)))))) nil))) (cTup (cons (cN false 0) (cons (cLit (.tuple [(.str ⟨⟨[nat_lit 110,nat_lit 117,nat_lit 109]⟩⟩),(.int (.ofNat (.succ (nat_lit 0)))),(.int (.ofNat (.succ (nat_lit 0))))])) nil))))) xNil)
noncomputable def b27(c:Nat→List V→R):List V→R:=fnA 2 2 (xSeq (xFor [2] 1 (cons (cBi .min (cons (cBi .len (cons (cN true 0) nil)) (cons (cBi .len (cons (cN true 1) nil)) nil))) nil) (xSeq (xAsg 3 false (cCall (c 4) (cons (cSub (cN true 0) (cN false 2)) (cons (cSub (cN true 1) (cN false 2)) nil)))) (xSeq (xIte (cCmp .NotEq (cN true 3) (cLit (.int (.ofNat .zero)))) (xSeq (xRet (cN false 3)) xNil) xNil) xNil))) (xSeq (xRet (cCall F22 (cons (cBi .len (cons (cN true 1) nil)) (cons (cBi .len (cons (cN true 0) nil)) nil)))) xNil))
noncomputable def b28(c:Nat→List V→R):List V→R:=fnA 2 0 (xSeq (xIte (cAnd2 (cCall F15 (cons (cN false 0) nil)) (cCall F15 (cons (cN false 1) nil))) (xSeq (xRet (cCall F23 (cons (cCall F16 (cons (cN false 1) nil)) (cons (cCall F16 (cons (cN false 0) nil)) nil)))) xNil) xNil) (xSeq (xIte (cCmp .NotEq (cCall F15 (cons (cN false 0) nil)) (cCall F15 (cons (cN false 1) nil))) (xSeq (xRet (cIte (cCall F15 (cons (cN false 0) nil)) (cLit (.int (.ofNat (.succ (nat_lit 0))))) (cNeg (cLit (.int (.ofNat (.succ (nat_lit 0)))))))) xNil) xNil) (xSeq (xRet (cCall (c 4) (cons (cN false 0) (cons (cN false 1) nil)))) xNil)))
noncomputable def b29(c:Nat→List V→R):List V→R:=fnA 2 2 (xSeq (xAsg 2 false (cCall F22 (cons (cSub (cLit (.dict [((.str ⟨⟨[nat_lit 115,nat_lit 121,nat_lit 109]⟩⟩),(.int (.ofNat .zero))),((.str ⟨⟨[nat_lit 99,nat_lit 97,nat_lit 108,nat_lit 108]⟩⟩),(.int (.ofNat (.succ (nat_lit 0))))),((.str ⟨⟨[nat_lit 115,nat_lit 117,nat_lit 109]⟩⟩),(.int (.ofNat (.succ (nat_lit 1))))),((.str ⟨⟨[nat_lit 112,nat_lit 114,nat_lit 111,nat_lit 100]⟩⟩),(.int (.ofNat (.succ (nat_lit 2))))),((.str ⟨⟨[nat_lit 110,nat_lit 117,nat_lit 109]⟩⟩),(.int (.ofNat (.succ (nat_lit 3))))),((.str ⟨⟨[nat_lit 112,nat_lit 111,nat_lit 119]⟩⟩),(.int (.ofNat (.succ (nat_lit 4))))),((.str ⟨⟨[nat_lit 101,nat_lit 113]⟩⟩),(.int (.ofNat (.succ (nat_lit 5))))),((.str ⟨⟨[nat_lit 108,nat_lit 105,nat_lit 115,nat_lit 116]⟩⟩),(.int (.ofNat (.succ (nat_lit 6)))))])) (cSub (cN true 0) (cLit (.int (.ofNat .zero))))) (cons (cSub (cLit (.dict [((.str ⟨⟨[nat_lit 115,nat_lit 121,nat_lit 109]⟩⟩),(.int (.ofNat .zero))),((.str ⟨⟨[nat_lit 99,nat_lit 97,nat_lit 108,nat_lit 108]⟩⟩),(.int (.ofNat (.succ (nat_lit 0))))),((.str ⟨⟨[nat_lit 115,nat_lit 117,nat_lit 109]⟩⟩),(.int (.ofNat (.succ (nat_lit 1))))),((.str ⟨⟨[nat_lit 112,nat_lit 114,nat_lit 111,nat_lit 100]⟩⟩),(.int (.ofNat (.succ (nat_lit 2))))),((.str ⟨⟨[nat_lit 110,nat_lit 117,nat_lit 109]⟩⟩),(.int (.ofNat (.succ (nat_lit 3))))),((.str ⟨⟨[nat_lit 112,nat_lit 111,nat_lit 119]⟩⟩),(.int (.ofNat (.succ (nat_lit 4))))),((.str ⟨⟨[nat_lit 101,nat_lit 113]⟩⟩),(.int (.ofNat (.succ (nat_lit 5))))),((.str ⟨⟨[nat_lit 108,nat_lit 105,nat_lit 115,nat_lit 116]⟩⟩),(.int (.ofNat (.succ (nat_lit 6)))))])) (cSub (cN true 1) (cLit (.int (.ofNat .zero))))) nil)))) (xSeq (xIte (cCmp .NotEq (cN true 2) (cLit (.int (.ofNat .zero)))) (xSeq (xRet (cN false 2)) xNil) xNil) (xSeq (xAsg 3 false (cSub (cN true 0) (cLit (.int (.ofNat .zero))))) (xSeq (xIte (cCmp .Eq (cN true 3) (cLit (.str ⟨⟨[nat_lit 110,nat_lit 117,nat_lit 109]⟩⟩))) (xSeq (xRet (cCall F23 (cons (cCall F16 (cons (cN false 0) nil)) (cons (cCall F16 (cons (cN false 1) nil)) nil)))) xNil) xNil) (xSeq (xIte (cCmp .Eq (cN true 3) (cLit (.str ⟨⟨[nat_lit 115,nat_lit 121,nat_lit 109]⟩⟩))) (xSeq (xRet (cCall F22 (cons (cSub (cN true 0) (cLit (.int (.ofNat (.succ (nat_lit 0)))))) (cons (cSub (cN true 1) (cLit (.int (.ofNat (.succ (nat_lit 0)))))) nil)))) xNil) xNil) (xSeq (xIte (cCmp .Eq (cN true 3) (cLit (.str ⟨⟨[nat_lit 99,nat_lit 97,nat_lit 108,nat_lit 108]⟩⟩))) (xSeq (xAsg 2 false (cCall F22 (cons (cSub (cN true 0) (cLit (.int (.ofNat (.succ (nat_lit 0)))))) (cons (cSub (cN true 1) (cLit (.int (.ofNat (.succ (nat_lit 0)))))) nil)))) (xSeq (xRet (cIte (cCmp .NotEq (cN true 2) (cLit (.int (.ofNat .zero)))) (cN false 2) (cCall (c 0) (cons (cSub (cN true 0) (cLit (.int (.ofNat (.succ (nat_lit 1)))))) (cons (cSub (cN true 1) (cLit (.int (.ofNat (.succ (nat_lit 1)))))) nil))))) xNil)) xNil) (xSeq (xIte (cCmp .In (cN true 3) (cTup (cons (cLit (.str ⟨⟨[nat_lit 115,nat_lit 117,nat_lit 109]⟩⟩)) (cons (cLit (.str ⟨⟨[nat_lit 112,nat_lit 114,nat_lit 111,nat_lit 100]⟩⟩)) (cons (cLit (.str ⟨⟨[nat_lit 108,nat_lit 105,nat_lit 115,nat_lit 116]⟩⟩)) nil))))) (xSeq (xRet (cCall (c 0) (cons (cSub (cN true 0) (cLit (.int (.ofNat (.succ (nat_lit 0)))))) (cons (cSub (cN true 1) (cLit (.int (.ofNat (.succ (nat_lit 0)))))) nil)))) xNil) xNil) (xSeq (xRet (cCall (c 0) (cons (cSlice (cN true 0) (some (cLit (.int (.ofNat (.succ (nat_lit 0)))))) none) (cons (cSlice (cN true 1) (some (cLit (.int (.ofNat (.succ (nat_lit 0)))))) none) nil)))) xNil))))))))
noncomputable def b30(c:Nat→List V→R):List V→R:=fnA 2 5 (xSeq (xAsgT [2,3] (cCall F26 (cons (cN false 0) nil))) (xSeq (xAsgT [4,5] (cCall F26 (cons (cN false 1) nil))) (xSeq (xAsg 6 false (cCall (c 2) (cons (cN false 2) (cons (cN false 4) nil)))) (xSeq (xRet (cIte (cCmp .NotEq (cN true 6) (cLit (.int (.ofNat .zero)))) (cN false 6) (cCall (c 1) (cons (cN false 3) (cons (cN false 5) nil))))) xNil))))
noncomputable def b31(c:Nat→List V→R):List V→R:=fnA 2 4 (xSeq (xIte (cAnd2 (cCall F15 (cons (cN false 0) nil)) (cCall F15 (cons (cN false 1) nil))) (xSeq (xRet (cCall F23 (cons (cCall F16 (cons (cN false 0) nil)) (cons (cCall F16 (cons (cN false 1) nil)) nil)))) xNil) xNil) (xSeq (xIte (cCmp .NotEq (cCall F15 (cons (cN false 0) nil)) (cCall F15 (cons (cN false 1) nil))) (xSeq (xRet (cIte (cCall F15 (cons (cN false 0) nil)) (cLit (.int (.ofNat (.succ (nat_lit 0))))) (cNeg (cLit (.int (.ofNat (.succ (nat_lit 0)))))))) xNil) xNil) (xSeq (xAsgL (gnm 2 false (gnm 3 false gnil)) (cons (cCall F24 (cons (cN false 0) nil)) (cons (cCall F24 (cons (cN false 1) nil)) nil))) (xSeq (xFor [4] 1 (cons (cBi .min (cons (cBi .len (cons (cN true 2) nil)) (cons (cBi .len (cons (cN true 3) nil)) nil))) nil) (xSeq (xAsg 5 false (cCall (c 3) (cons (cSub (cN true 2) (cN false 4)) (cons (cSub (cN true 3) (cN false 4)) nil)))) (xSeq (xIte (cCmp .NotEq (cN true 5) (cLit (.int (.ofNat .zero)))) (xSeq (xRet (cN false 5)) xNil) xNil) xNil))) (xSeq (xAsg 5 false (cCall F22 (cons (cBi .len (cons (cN true 3) nil)) (cons (cBi .len (cons (cN true 2) nil)) nil)))) (xSeq (xRet (cIte (cCmp .NotEq (cN true 5) (cLit (.int (.ofNat .zero)))) (cN false 5) (cCall F23 (cons (cCall F25 (cons (cN false 0) nil)) (cons (cCall F25 (cons (cN false 1) nil)) nil))))) xNil))))))
noncomputable def cl27(n:Nat):Nat→List V→R:=@Nat.rec (fun _=>Nat→List V→R) (fun _ _=>none) (fun _ c m=>(@Bool.rec (fun _=>List V→R) ((@Bool.rec (fun _=>List V→R) ((@Bool.rec (fun _=>List V→R) (b31 c) (b30 c) (Nat.blt m 4))) (b29 c) (Nat.blt m 3))) ((@Bool.rec (fun _=>List V→R) (b28 c) (b27 c) (Nat.blt m 1))) (Nat.blt m 2))) n
noncomputable def F27:List V→R:=cl27 40 0
noncomputable def F28:List V→R:=cl27 40 1
noncomputable def F29:List V→R:=cl27 40 2
noncomputable def F30:List V→R:=cl27 40 3
noncomputable def F31:List V→R:=cl27 40 4
noncomputable def F32:List V→R:=fnA 2 4 (xSeq (xAsgL (gnm 2 true (gnm 3 false (gnm 4 false gnil))) (cons (cList nil) (cons (cLit (.int (.ofNat .zero))) (cons (cLit (.int (.ofNat .zero))) nil)))) (xSeq (xWhl 1000 (cOr2 (cCmp .Lt (cN true 3) (cBi .len (cons (cN true 0) nil))) (cCmp .Lt (cN true 4) (cBi .len (cons (cN true 1) nil)))) (xSeq (xAsg 5 false (cOr2 (cCmp .GtE (cN true 4) (cBi .len (cons (cN true 1) nil))) (cAnd2 (cCmp .Lt (cN true 3) (cBi .len (cons (cN true 0) nil))) (cCmp .LtE (cCall F31 (cons (cSub (cN true 0) (cN false 3)) (cons (cSub (cN true 1) (cN false 4)) nil))) (cLit (.int (.ofNat .zero))))))) (xSeq (xIte (cN false 5) (xSeq (xApp 2 (cSub (cN true 0) (cN false 3))) (xSeq (xAug 3 .Add (cLit (.int (.ofNat (.succ (nat_lit 0)))))) xNil)) (xSeq (xApp 2 (cSub (cN true 1) (cN false 4))) (xSeq (xAug 4 .Add (cLit (.int (.ofNat (.succ (nat_lit 0)))))) xNil))) xNil))) (xSeq (xFrz [2] (xRet (cN false 2))) xNil)))
noncomputable def b33(c:Nat→List V→R):List V→R:=fnA 1 1 (xSeq (xIte (cCmp .Lt (cBi .len (cons (cN true 0) nil)) (cLit (.int (.ofNat (.succ (nat_lit 1)))))) (xSeq (xRet (cBi .list (cons (cN true 0) nil))) xNil) xNil) (xSeq (xAsg 1 false (cBin .FloorDiv (cBi .len (cons (cN true 0) nil)) (cLit (.int (.ofNat (.succ (nat_lit 1))))))) (xSeq (xRet (cCall F32 (cons (cCall (c 0) (cons (cSlice (cN true 0) none (some (cN false 1))) nil)) (cons (cCall (c 0) (cons (cSlice (cN true 0) (some (cN false 1)) none) nil)) nil)))) xNil)))
noncomputable def cl33(n:Nat):Nat→List V→R:=@Nat.rec (fun _=>Nat→List V→R) (fun _ _=>none) (fun _ c m=>b33 c) n
noncomputable def F33:List V→R:=cl33 40 0
noncomputable def F34:List V→R:=fnA 1 0 (xSeq (xRet (cTup (cons (cLit (.str ⟨⟨[nat_lit 110,nat_lit 117,nat_lit 109]⟩⟩)) (cons (cSub (cN true 0) (cLit (.int (.ofNat .zero)))) (cons (cSub (cN true 0) (cLit (.int (.ofNat (.succ (nat_lit 0)))))) nil))))) xNil)
noncomputable def F35:List V→R:=fnA 1 1 (xSeq (xIte (cCmp .Eq (cSub (cN true 0) (cLit (.int (.ofNat .zero)))) (cLit (.str ⟨⟨[nat_lit 110,nat_lit 117,nat_lit 109]⟩⟩))) (xSeq (xRet (cTup (cons (cTup (cons (cSub (cN true 0) (cLit (.int (.ofNat (.succ (nat_lit 0)))))) (cons (cSub (cN true 0) (cLit (.int (.ofNat (.succ (nat_lit 1)))))) nil))) (cons (cLit (.tuple [(.str ⟨⟨[nat_lit 110,nat_lit 117,nat_lit 109]⟩⟩),(.int (.ofNat (.succ (nat_lit 0)))),(.int (.ofNat (.succ (nat_lit 0))))])) nil)))) xNil) xNil) (xSeq (xIte (cOr2 (cCmp .NotEq (cSub (cN true 0) (cLit (.int (.ofNat .zero)))) (cLit (.str ⟨⟨[nat_lit 112,nat_lit 114,nat_lit 111,nat_lit 100]⟩⟩))) (cCmp .NotEq (cSub (cSub (cSub (cN true 0) (cLit (.int (.ofNat (.succ (nat_lit 0)))))) (cLit (.int (.ofNat .zero)))) (cLit (.int (.ofNat .zero)))) (cLit (.str ⟨⟨[nat_lit 110,nat_lit 117,nat_lit 109]⟩⟩)))) (xSeq (xRet (cTup (cons (cTup (cons (cLit (.int (.ofNat (.succ (nat_lit 0))))) (cons (cLit (.int (.ofNat (.succ (nat_lit 0))))) nil))) (cons (cN false 0) nil)))) xNil) xNil) (xSeq (xAsg 1 false (cIte (cCmp .Eq (cBi .len (cons (cSub (cN true 0) (cLit (.int (.ofNat (.succ (nat_lit 0)))))) nil)) (cLit (.int (.ofNat (.succ (nat_lit 1)))))) (cSub (cSub (cN true 0) (cLit (.int (.ofNat (.succ (nat_lit 0)))))) (cLit (.int (.ofNat (.succ (nat_lit 0)))))) (cTup (cons (cLit (.str ⟨⟨[nat_lit 112,nat_lit 114,nat_lit 111,nat_lit 100]⟩⟩)) (cons (cSlice (cSub (cN true 0) (cLit (.int (.ofNat (.succ (nat_lit 0)))))) (some (cLit (.int (.ofNat (.succ (nat_lit 0)))))) none) nil))))) (xSeq (xRet (cTup (cons (cTup (cons (cSub (cSub (cSub (cN true 0) (cLit (.int (.ofNat (.succ (nat_lit 0)))))) (cLit (.int (.ofNat .zero)))) (cLit (.int (.ofNat (.succ (nat_lit 0)))))) (cons (cSub (cSub (cSub (cN true 0) (cLit (.int (.ofNat (.succ (nat_lit 0)))))) (cLit (.int (.ofNat .zero)))) (cLit (.int (.ofNat (.succ (nat_lit 1)))))) nil))) (cons (cN false 1) nil)))) xNil))))
noncomputable def F36:List V→R:=fnA 2 0 (xSeq (xIte (cOr2 (cCmp .Eq (cSub (cN true 0) (cLit (.int (.ofNat .zero)))) (cLit (.int (.ofNat .zero)))) (cCmp .Eq (cN true 1) (cLit (.tuple [(.str ⟨⟨[nat_lit 110,nat_lit 117,nat_lit 109]⟩⟩),(.int (.ofNat (.succ (nat_lit 0)))),(.int (.ofNat (.succ (nat_lit 0))))])))) (xSeq (xRet (cCall F34 (cons (cN false 0) nil))) xNil) xNil) (xSeq (xIte (cCmp .Eq (cN true 0) (cTup (cons (cLit (.int (.ofNat (.succ (nat_lit 0))))) (cons (cLit (.int (.ofNat (.succ (nat_lit 0))))) nil)))) (xSeq (xRet (cN false 1)) xNil) xNil) (xSeq (xRet (cTup (cons (cLit (.str ⟨⟨[nat_lit 112,nat_lit 114,nat_lit 111,nat_lit 100]⟩⟩)) (cons (cBin .Add (cTup (cons (cCall F34 (cons (cN false 0) nil)) nil)) (cIte (cCmp .Eq (cSub (cN true 1) (cLit (.int (.ofNat .zero)))) (cLit (.str ⟨⟨[nat_lit 112,nat_lit 114,nat_lit 111,nat_lit 100]⟩⟩))) (cSub (cN true 1) (cLit (.int (.ofNat (.succ (nat_lit 0)))))) (cTup (cons (cN false 1) nil)))) nil)))) xNil)))
noncomputable def F37:List V→R:=fnA 2 2 (xSeq (xAsg 2 true (cList nil)) (xSeq (xFor [3] 0 (cons (cN false 0) nil) (xSeq (xExt 2 (cIte (cCmp .Eq (cSub (cN true 3) (cLit (.int (.ofNat .zero)))) (cN true 1)) (cBi .list (cons (cSub (cN true 3) (cLit (.int (.ofNat (.succ (nat_lit 0)))))) nil)) (cList (cons (cN false 3) nil)))) xNil)) (xSeq (xFrz [2] (xRet (cN false 2))) xNil)))
noncomputable def b38(c:Nat→List V→R):List V→R:=fnA 1 6 (xSeq (xAsg 1 true cD0) (xSeq (xFor [2] 0 (cons (cCall F37 (cons (cN false 0) (cons (cLit (.str ⟨⟨[nat_lit 115,nat_lit 117,nat_lit 109]⟩⟩)) nil))) nil) (xSeq (xAsgT [3,4] (cCall F35 (cons (cN false 2) nil))) (xSeq (xSetI 1 (cN false 4) (cCall F3 (cons (cGet2 1 (cN false 4) (cTup (cons (cLit (.int (.ofNat .zero))) (cons (cLit (.int (.ofNat (.succ (nat_lit 0))))) nil)))) (cons (cN false 3) nil)))) xNil))) (xSeq (xPopD 5 1 (cLit (.tuple [(.str ⟨⟨[nat_lit 110,nat_lit 117,nat_lit 109]⟩⟩),(.int (.ofNat (.succ (nat_lit 0)))),(.int (.ofNat (.succ (nat_lit 0))))])) (cTup (cons (cLit (.int (.ofNat .zero))) (cons (cLit (.int (.ofNat (.succ (nat_lit 0))))) nil)))) (xSeq (xAsg 6 false (cComp (cCall F36 (cons (cN false 8) (cons (cN false 7) nil))) 6 (cons (cN true 1) nil) (tcons (cCmp .NotEq (cSub (cN true 8) (cLit (.int (.ofNat .zero)))) (cLit (.int (.ofNat .zero)))) tnil))) (xSeq (xIte (cCmp .Gt (cBi .len (cons (cComp (cN false 7) 0 (cons (cN true 6) nil) (tcons (cCmp .Eq (cSub (cN true 7) (cLit (.int (.ofNat .zero)))) (cLit (.str ⟨⟨[nat_lit 115,nat_lit 117,nat_lit 109]⟩⟩))) tnil)) nil)) (cLit (.int (.ofNat .zero)))) (xSeq (xRet (cCall (c 0) (cons (cBin .Add (cN false 6) (cList (cons (cCall F34 (cons (cN false 5) nil)) nil))) nil))) xNil) xNil) (xSeq (xAsg 6 false (cBin .Add (cCall F33 (cons (cN false 6) nil)) (cIte (cCmp .NotEq (cSub (cN true 5) (cLit (.int (.ofNat .zero)))) (cLit (.int (.ofNat .zero)))) (cList (cons (cCall F34 (cons (cN false 5) nil)) nil)) (cList nil)))) (xSeq (xIte (cCmp .Eq (cBi .len (cons (cN true 6) nil)) (cLit (.int (.ofNat .zero)))) (xSeq (xRet (cLit (.tuple [(.str ⟨⟨[nat_lit 110,nat_lit 117,nat_lit 109]⟩⟩),(.int (.ofNat .zero)),(.int (.ofNat (.succ (nat_lit 0))))]))) xNil) xNil) (xSeq (xRet (cIte (cCmp .Eq (cBi .len (cons (cN true 6) nil)) (cLit (.int (.ofNat (.succ (nat_lit 0)))))) (cSub (cN true 6) (cLit (.int (.ofNat .zero)))) (cTup (cons (cLit (.str ⟨⟨[nat_lit 115,nat_lit 117,nat_lit 109]⟩⟩)) (cons (cBi .tuple (cons (cN true 6) nil)) nil))))) xNil))))))))
noncomputable def cl38(n:Nat):Nat→List V→R:=@Nat.rec (fun _=>Nat→List V→R) (fun _ _=>none) (fun _ c m=>b38 c) n
noncomputable def F38:List V→R:=cl38 40 0
noncomputable def F39:List V→R:=fnA 2 0 (xSeq (xRet (cAnd2 (cCmp .Eq (cSub (cN true 0) (cLit (.int (.ofNat .zero)))) (cLit (.str ⟨⟨[nat_lit 99,nat_lit 97,nat_lit 108,nat_lit 108]⟩⟩))) (cAnd2 (cCmp .Eq (cSub (cN true 0) (cLit (.int (.ofNat (.succ (nat_lit 0)))))) (cN true 1)) (cCmp .Eq (cBi .len (cons (cSub (cN true 0) (cLit (.int (.ofNat (.succ (nat_lit 1)))))) nil)) (cLit (.int (.ofNat (.succ (nat_lit 0))))))))) xNil)
noncomputable def F40:List V→R:=fnA 1 0 (xSeq (xIte (cCmp .Eq (cSub (cN true 0) (cLit (.int (.ofNat .zero)))) (cLit (.str ⟨⟨[nat_lit 112,nat_lit 111,nat_lit 119]⟩⟩))) (xSeq (xRet (cTup (cons (cSub (cN true 0) (cLit (.int (.ofNat (.succ (nat_lit 0)))))) (cons (cSub (cN true 0) (cLit (.int (.ofNat (.succ (nat_lit 1)))))) nil)))) xNil) xNil) (xSeq (xIte (cCall F39 (cons (cN false 0) (cons (cLit (.str ⟨⟨[nat_lit 101,nat_lit 120,nat_lit 112]⟩⟩)) nil))) (xSeq (xRet (cTup (cons (cLit (.tuple [(.str ⟨⟨[nat_lit 99,nat_lit 97,nat_lit 108,nat_lit 108]⟩⟩),(.str ⟨⟨[nat_lit 101,nat_lit 120,nat_lit 112]⟩⟩),(.tuple [(.tuple [(.str ⟨⟨[nat_lit 110,nat_lit 117,nat_lit 109]⟩⟩),(.int (.ofNat (.succ (nat_lit 0)))),(.int (.ofNat (.succ (nat_lit 0))))])])])) (cons (cSub (cSub (cN true 0) (cLit (.int (.ofNat (.succ (nat_lit 1)))))) (cLit (.int (.ofNat .zero)))) nil)))) xNil) xNil) (xSeq (xRet (cTup (cons (cN false 0) (cons (cLit (.tuple [(.str ⟨⟨[nat_lit 110,nat_lit 117,nat_lit 109]⟩⟩),(.int (.ofNat (.succ (nat_lit 0)))),(.int (.ofNat (.succ (nat_lit 0))))])) nil)))) xNil)))
noncomputable def F43:List V→R:=fnA 2 0 (xSeq (xIte (cCmp .Eq (cN true 0) (cLit (.tuple [(.str ⟨⟨[nat_lit 110,nat_lit 117,nat_lit 109]⟩⟩),(.int (.ofNat (.succ (nat_lit 0)))),(.int (.ofNat (.succ (nat_lit 0))))]))) (xSeq (xRet (cLit (.tuple [(.str ⟨⟨[nat_lit 110,nat_lit 117,nat_lit 109]⟩⟩),(.int (.ofNat (.succ (nat_lit 0)))),(.int (.ofNat (.succ (nat_lit 0))))]))) xNil) xNil) (xSeq (xIte (cCmp .NotEq (cSub (cN true 1) (cLit (.int (.ofNat .zero)))) (cLit (.str ⟨⟨[nat_lit 110,nat_lit 117,nat_lit 109]⟩⟩))) (xSeq (xRet (cTup (cons (cLit (.str ⟨⟨[nat_lit 112,nat_lit 111,nat_lit 119]⟩⟩)) (cons (cN false 0) (cons (cN false 1) nil))))) xNil) xNil) (xSeq (xIte (cCmp .Eq (cN true 0) (cLit (.tuple [(.str ⟨⟨[nat_lit 110,nat_lit 117,nat_lit 109]⟩⟩),(.int (.ofNat .zero)),(.int (.ofNat (.succ (nat_lit 0))))]))) (xSeq (xIte (cCmp .Lt (cSub (cN true 1) (cLit (.int (.ofNat (.succ (nat_lit 0)))))) (cLit (.int (.ofNat .zero)))) (xSeq xStuck xNil) xNil) (xSeq (xRet (cLit (.tuple [(.str ⟨⟨[nat_lit 110,nat_lit 117,nat_lit 109]⟩⟩),(.int (.ofNat .zero)),(.int (.ofNat (.succ (nat_lit 0))))]))) xNil)) xNil) (xSeq (xIte (cCmp .Eq (cSub (cN true 1) (cLit (.int (.ofNat (.succ (nat_lit 1)))))) (cLit (.int (.ofNat (.succ (nat_lit 0)))))) (xSeq (xRet (cCall F34 (cons (cCall F9 (cons (cTup (cons (cSub (cN true 0) (cLit (.int (.ofNat (.succ (nat_lit 0)))))) (cons (cSub (cN true 0) (cLit (.int (.ofNat (.succ (nat_lit 1)))))) nil))) (cons (cSub (cN true 1) (cLit (.int (.ofNat (.succ (nat_lit 0)))))) nil))) nil))) xNil) xNil) (xSeq (xIte (cOr2 (cCmp .Lt (cSub (cN true 0) (cLit (.int (.ofNat (.succ (nat_lit 0)))))) (cLit (.int (.ofNat .zero)))) (cCmp .Gt (cBi .max (cons (cSub (cN true 0) (cLit (.int (.ofNat (.succ (nat_lit 0)))))) (cons (cSub (cN true 0) (cLit (.int (.ofNat (.succ (nat_lit 1)))))) nil))) (cLit (.int (.ofNat (.succ (nat_lit 999999))))))) (xSeq (xRet cStuck) xNil) xNil) (xSeq (xRet cStuck) xNil))))))
noncomputable def b41(c:Nat→List V→R):List V→R:=fnA 1 8 (xSeq (xAsgL (gnm 1 false (gnm 2 true gnil)) (cons (cTup (cons (cLit (.int (.ofNat (.succ (nat_lit 0))))) (cons (cLit (.int (.ofNat (.succ (nat_lit 0))))) nil))) (cons cD0 nil))) (xSeq (xFor [3] 0 (cons (cCall F37 (cons (cN false 0) (cons (cLit (.str ⟨⟨[nat_lit 112,nat_lit 114,nat_lit 111,nat_lit 100]⟩⟩)) nil))) nil) (xSeq (xIte (cCmp .Eq (cSub (cN true 3) (cLit (.int (.ofNat .zero)))) (cLit (.str ⟨⟨[nat_lit 110,nat_lit 117,nat_lit 109]⟩⟩))) (xSeq (xAsg 1 false (cCall F5 (cons (cN false 1) (cons (cTup (cons (cSub (cN true 3) (cLit (.int (.ofNat (.succ (nat_lit 0)))))) (cons (cSub (cN true 3) (cLit (.int (.ofNat (.succ (nat_lit 1)))))) nil))) nil)))) xNil) (xSeq (xAsgT [4,5] (cCall F40 (cons (cN false 3) nil))) (xSeq (xSetI 2 (cN false 4) (cIte (cCmp .In (cN true 4) (cN true 2)) (cCall F38 (cons (cList (cons (cSub (cN true 2) (cN false 4)) (cons (cN false 5) nil))) nil)) (cN false 5))) xNil))) xNil)) (xSeq (xIte (cCmp .Eq (cSub (cN true 1) (cLit (.int (.ofNat .zero)))) (cLit (.int (.ofNat .zero)))) (xSeq (xRet (cLit (.tuple [(.str ⟨⟨[nat_lit 110,nat_lit 117,nat_lit 109]⟩⟩),(.int (.ofNat .zero)),(.int (.ofNat (.succ (nat_lit 0))))]))) xNil) xNil) (xSeq (xAsgL (gnm 6 true (gnm 7 false gnil)) (cons (cList nil) (cons (cLit (.bool true)) nil))) (xSeq (xFrz [2] (xFor [4,5] 6 (cons (cN false 2) nil) (xSeq (xAsg 8 false (cCall (c 1) (cons (cN false 4) (cons (cN false 5) nil)))) (xSeq (xIte (cCmp .Eq (cSub (cN true 8) (cLit (.int (.ofNat .zero)))) (cLit (.str ⟨⟨[nat_lit 110,nat_lit 117,nat_lit 109]⟩⟩))) (xSeq (xAsg 1 false (cCall F5 (cons (cN false 1) (cons (cTup (cons (cSub (cN true 8) (cLit (.int (.ofNat (.succ (nat_lit 0)))))) (cons (cSub (cN true 8) (cLit (.int (.ofNat (.succ (nat_lit 1)))))) nil))) nil)))) xNil) (xSeq (xAsg 7 false (cAnd2 (cN false 7) (cAnd2 (cCmp .NotEq (cSub (cN true 8) (cLit (.int (.ofNat .zero)))) (cLit (.str ⟨⟨[nat_lit 112,nat_lit 114,nat_lit 111,nat_lit 100]⟩⟩))) (cCmp .Eq (cSub (cCall F40 (cons (cN false 8) nil)) (cLit (.int (.ofNat .zero)))) (cN true 4))))) (xSeq (xApp 6 (cN false 8)) xNil))) xNil)))) (xSeq (xIte (cNot (cN false 7)) (xSeq (xFrz [6] (xRet (cCall (c 0) (cons (cBin .Add (cList (cons (cCall F34 (cons (cN false 1) nil)) nil)) (cN false 6)) nil)))) xNil) xNil) (xSeq (xFrz [6] (xAsg 6 false (cCall F33 (cons (cN false 6) nil)))) (xSeq (xIte (cOr2 (cCmp .Eq (cBi .len (cons (cN true 6) nil)) (cLit (.int (.ofNat .zero)))) (cCmp .Eq (cSub (cN true 1) (cLit (.int (.ofNat .zero)))) (cLit (.int (.ofNat .zero))))) (xSeq (xRet (cCall F34 (cons (cN false 1) nil))) xNil) xNil) (xSeq (xRet (cCall F36 (cons (cN false 1) (cons (cIte (cCmp .Eq (cBi .len (cons (cN true 6) nil)) (cLit (.int (.ofNat (.succ (nat_lit 0)))))) (cSub (cN true 6) (cLit (.int (.ofNat .zero)))) (cTup (cons (cLit (.str ⟨⟨[nat_lit 112,nat_lit 114,nat_lit 111,nat_lit 100]⟩⟩)) (cons (cBi .tuple (cons (cN true 6) nil)) nil)))) nil)))) xNil)))))))))
noncomputable def b42(c:Nat→List V→R):List V→R:=fnA 2 0 (xSeq (xIte (cCmp .Eq (cN true 1) (cLit (.tuple [(.str ⟨⟨[nat_lit 110,nat_lit 117,nat_lit 109]⟩⟩),(.int (.ofNat .zero)),(.int (.ofNat (.succ (nat_lit 0))))]))) (xSeq (xIte (cCmp .Eq (cN true 0) (cLit (.tuple [(.str ⟨⟨[nat_lit 110,nat_lit 117,nat_lit 109]⟩⟩),(.int (.ofNat .zero)),(.int (.ofNat (.succ (nat_lit 0))))]))) (xSeq xStuck xNil) xNil) (xSeq (xRet (cLit (.tuple [(.str ⟨⟨[nat_lit 110,nat_lit 117,nat_lit 109]⟩⟩),(.int (.ofNat (.succ (nat_lit 0)))),(.int (.ofNat (.succ (nat_lit 0))))]))) xNil)) xNil) (xSeq (xIte (cCmp .Eq (cN true 1) (cLit (.tuple [(.str ⟨⟨[nat_lit 110,nat_lit 117,nat_lit 109]⟩⟩),(.int (.ofNat (.succ (nat_lit 0)))),(.int (.ofNat (.succ (nat_lit 0))))]))) (xSeq (xRet (cN false 0)) xNil) xNil) (xSeq (xIte (cCmp .Eq (cN true 0) (cLit (.tuple [(.str ⟨⟨[nat_lit 99,nat_lit 97,nat_lit 108,nat_lit 108]⟩⟩),(.str ⟨⟨[nat_lit 101,nat_lit 120,nat_lit 112]⟩⟩),(.tuple [(.tuple [(.str ⟨⟨[nat_lit 110,nat_lit 117,nat_lit 109]⟩⟩),(.int (.ofNat (.succ (nat_lit 0)))),(.int (.ofNat (.succ (nat_lit 0))))])])]))) (xSeq (xRet cStuck) xNil) xNil) (xSeq (xIte (cCmp .Eq (cSub (cN true 0) (cLit (.int (.ofNat .zero)))) (cLit (.str ⟨⟨[nat_lit 110,nat_lit 117,nat_lit 109]⟩⟩))) (xSeq (xRet (cCall F43 (cons (cN false 0) (cons (cN false 1) nil)))) xNil) xNil) (xSeq (xIte (cAnd2 (cCall F17 (cons (cN false 1) nil)) (cCmp .Eq (cSub (cN true 0) (cLit (.int (.ofNat .zero)))) (cLit (.str ⟨⟨[nat_lit 112,nat_lit 114,nat_lit 111,nat_lit 100]⟩⟩)))) (xSeq (xRet (cCall (c 0) (cons (cComp (cCall (c 1) (cons (cN false 2) (cons (cN false 1) nil))) 0 (cons (cSub (cN true 0) (cLit (.int (.ofNat (.succ (nat_lit 0)))))) nil) tnil) nil))) xNil) xNil) (xSeq (xIte (cAnd2 (cCall F17 (cons (cN false 1) nil)) (cCmp .Eq (cSub (cN true 0) (cLit (.int (.ofNat .zero)))) (cLit (.str ⟨⟨[nat_lit 112,nat_lit 111,nat_lit 119]⟩⟩)))) (xSeq (xRet (cCall (c 1) (cons (cSub (cN true 0) (cLit (.int (.ofNat (.succ (nat_lit 0)))))) (cons (cCall (c 0) (cons (cList (cons (cSub (cN true 0) (cLit (.int (.ofNat (.succ (nat_lit 1)))))) (cons (cN false 1) nil))) nil)) nil)))) xNil) xNil) (xSeq (xIte (cAnd2 (cCall F17 (cons (cN false 1) nil)) (cCall F39 (cons (cN false 0) (cons (cLit (.str ⟨⟨[nat_lit 101,nat_lit 120,nat_lit 112]⟩⟩)) nil)))) (xSeq (xRet cStuck) xNil) xNil) (xSeq (xIte (cAnd2 (cCmp .Eq (cSub (cN true 1) (cLit (.int (.ofNat .zero)))) (cLit (.str ⟨⟨[nat_lit 110,nat_lit 117,nat_lit 109]⟩⟩))) (cOr2 (cCmp .In (cSub (cN true 0) (cLit (.int (.ofNat .zero)))) (cTup (cons (cLit (.str ⟨⟨[nat_lit 112,nat_lit 114,nat_lit 111,nat_lit 100]⟩⟩)) (cons (cLit (.str ⟨⟨[nat_lit 112,nat_lit 111,nat_lit 119]⟩⟩)) nil)))) (cCall F39 (cons (cN false 0) (cons (cLit (.str ⟨⟨[nat_lit 101,nat_lit 120,nat_lit 112]⟩⟩)) nil))))) (xSeq (xRet cStuck) xNil) xNil) (xSeq (xRet (cTup (cons (cLit (.str ⟨⟨[nat_lit 112,nat_lit 111,nat_lit 119]⟩⟩)) (cons (cN false 0) (cons (cN false 1) nil))))) xNil)))))))))
noncomputable def cl41(n:Nat):Nat→List V→R:=@Nat.rec (fun _=>Nat→List V→R) (fun _ _=>none) (fun _ c m=>(@Bool.rec (fun _=>List V→R) (b42 c) (b41 c) (Nat.blt m 1))) n
noncomputable def F41:List V→R:=cl41 40 0
noncomputable def F42:List V→R:=cl41 40 1
noncomputable def b44(c:Nat→List V→R):List V→R:=fnA 1 2 (xSeq (xAsg 1 false (cSub (cN true 0) (cLit (.int (.ofNat .zero))))) (xSeq (xIte (cCmp .Eq (cN true 1) (cLit (.str ⟨⟨[nat_lit 110,nat_lit 117,nat_lit 109]⟩⟩))) (xSeq (xRet (cCall F34 (cons (cCall F2 (cons (cSub (cN true 0) (cLit (.int (.ofNat (.succ (nat_lit 0)))))) (cons (cSub (cN true 0) (cLit (.int (.ofNat (.succ (nat_lit 1)))))) nil))) nil))) xNil) xNil) (xSeq (xIte (cCmp .Eq (cN true 1) (cLit (.str ⟨⟨[nat_lit 115,nat_lit 121,nat_lit 109]⟩⟩))) (xSeq (xRet (cN false 0)) xNil) xNil) (xSeq (xIte (cCmp .Eq (cN true 1) (cLit (.str ⟨⟨[nat_lit 112,nat_lit 111,nat_lit 119]⟩⟩))) (xSeq (xRet (cCall F42 (cons (cCall (c 0) (cons (cSub (cN true 0) (cLit (.int (.ofNat (.succ (nat_lit 0)))))) nil)) (cons (cCall (c 0) (cons (cSub (cN true 0) (cLit (.int (.ofNat (.succ (nat_lit 1)))))) nil)) nil)))) xNil) xNil) (xSeq (xIte (cCmp .Eq (cN true 1) (cLit (.str ⟨⟨[nat_lit 99,nat_lit 97,nat_lit 108,nat_lit 108]⟩⟩))) (xSeq (xRet cStuck) xNil) xNil) (xSeq (xIte (cCmp .Eq (cN true 1) (cLit (.str ⟨⟨[nat_lit 101,nat_lit 113]⟩⟩))) (xSeq (xRet (cTup (cons (cLit (.str ⟨⟨[nat_lit 101,nat_lit 113]⟩⟩)) (cons (cCall (c 0) (cons (cSub (cN true 0) (cLit (.int (.ofNat (.succ (nat_lit 0)))))) nil)) (cons (cCall (c 0) (cons (cSub (cN true 0) (cLit (.int (.ofNat (.succ (nat_lit 1)))))) nil)) nil))))) xNil) xNil) (xSeq (xAsg 2 false (cComp (cCall (c 0) (cons (cN false 3) nil)) 0 (cons (cSub (cN true 0) (cLit (.int (.ofNat (.succ (nat_lit 0)))))) nil) tnil)) (xSeq (xIte (cCmp .Eq (cN true 1) (cLit (.str ⟨⟨[nat_lit 115,nat_lit 117,nat_lit 109]⟩⟩))) (xSeq (xRet (cCall F38 (cons (cN false 2) nil))) xNil) xNil) (xSeq (xRet (cIte (cCmp .Eq (cN true 1) (cLit (.str ⟨⟨[nat_lit 112,nat_lit 114,nat_lit 111,nat_lit 100]⟩⟩))) (cCall F41 (cons (cN false 2) nil)) (cTup (cons (cLit (.str ⟨⟨[nat_lit 108,nat_lit 105,nat_lit 115,nat_lit 116]⟩⟩)) (cons (cBi .tuple (cons (cN true 2) nil)) nil))))) xNil)))))))))
noncomputable def cl44(n:Nat):Nat→List V→R:=@Nat.rec (fun _=>Nat→List V→R) (fun _ _=>none) (fun _ c m=>b44 c) n
noncomputable def F44:List V→R:=cl44 40 0
noncomputable def F45:List V→R:=fnA 1 0 (xSeq (xRet (cIte (cCmp .Eq (cSub (cN true 0) (cLit (.int (.ofNat .zero)))) (cLit (.str ⟨⟨[nat_lit 115,nat_lit 117,nat_lit 109]⟩⟩))) (cBi .list (cons (cSub (cN true 0) (cLit (.int (.ofNat (.succ (nat_lit 0)))))) nil)) (cList (cons (cN false 0) nil)))) xNil)
noncomputable def b46(c:Nat→List V→R):List V→R:=fnA 2 0 (xSeq (xIte (cAnd2 (cCmp .NotEq (cSub (cN true 0) (cLit (.int (.ofNat .zero)))) (cLit (.str ⟨⟨[nat_lit 115,nat_lit 117,nat_lit 109]⟩⟩))) (cCmp .NotEq (cSub (cN true 1) (cLit (.int (.ofNat .zero)))) (cLit (.str ⟨⟨[nat_lit 115,nat_lit 117,nat_lit 109]⟩⟩)))) (xSeq (xRet (cCall F41 (cons (cList (cons (cN false 0) (cons (cN false 1) nil))) nil))) xNil) xNil) (xSeq (xRet (cCall F38 (cons (cComp2 (cCall (c 0) (cons (cN false 2) (cons (cN false 3) nil))) (cCall F45 (cons (cN false 0) nil)) (cCall F45 (cons (cN false 1) nil))) nil))) xNil))
noncomputable def cl46(n:Nat):Nat→List V→R:=@Nat.rec (fun _=>Nat→List V→R) (fun _ _=>none) (fun _ c m=>b46 c) n
noncomputable def F46:List V→R:=cl46 40 0
noncomputable def F47:List V→R:=fnA 1 2 (xSeq (xAsg 1 false (cLit (.tuple [(.str ⟨⟨[nat_lit 110,nat_lit 117,nat_lit 109]⟩⟩),(.int (.ofNat (.succ (nat_lit 0)))),(.int (.ofNat (.succ (nat_lit 0))))]))) (xSeq (xFor [2] 0 (cons (cN false 0) nil) (xSeq (xAsg 1 false (cCall F46 (cons (cN false 1) (cons (cN false 2) nil)))) xNil)) (xSeq (xRet (cN false 1)) xNil)))
noncomputable def F48:List V→R:=fnA 2 1 (xSeq (xAsg 2 false (cLit (.tuple [(.str ⟨⟨[nat_lit 110,nat_lit 117,nat_lit 109]⟩⟩),(.int (.ofNat (.succ (nat_lit 0)))),(.int (.ofNat (.succ (nat_lit 0))))]))) (xSeq (xWhl 1000 (cCmp .Gt (cN true 1) (cLit (.int (.ofNat .zero)))) (xSeq (xIte (cCmp .Eq (cBin .Mod (cN false 1) (cLit (.int (.ofNat (.succ (nat_lit 1)))))) (cLit (.int (.ofNat (.succ (nat_lit 0)))))) (xSeq (xAsg 2 false (cCall F46 (cons (cN false 2) (cons (cN false 0) nil)))) xNil) xNil) (xSeq (xAsg 1 false (cBin .FloorDiv (cN false 1) (cLit (.int (.ofNat (.succ (nat_lit 1))))))) (xSeq (xIte (cCmp .Gt (cN true 1) (cLit (.int (.ofNat .zero)))) (xSeq (xAsg 0 false (cCall F46 (cons (cN false 0) (cons (cN false 0) nil)))) xNil) xNil) xNil)))) (xSeq (xRet (cN false 2)) xNil)))
noncomputable def F49:List V→R:=fnA 2 0 (xSeq (xIte (cOr2 (cNot (cCall F17 (cons (cN false 1) nil))) (cCmp .NotEq (cSub (cN true 0) (cLit (.int (.ofNat .zero)))) (cLit (.str ⟨⟨[nat_lit 115,nat_lit 117,nat_lit 109]⟩⟩)))) (xSeq (xRet (cCall F42 (cons (cN false 0) (cons (cN false 1) nil)))) xNil) xNil) (xSeq (xIte (cCmp .Gt (cSub (cN true 1) (cLit (.int (.ofNat (.succ (nat_lit 0)))))) (cLit (.int (.ofNat .zero)))) (xSeq (xRet (cCall F48 (cons (cN false 0) (cons (cSub (cN true 1) (cLit (.int (.ofNat (.succ (nat_lit 0)))))) nil)))) xNil) xNil) (xSeq (xRet (cCall F42 (cons (cCall F48 (cons (cN false 0) (cons (cNeg (cSub (cN true 1) (cLit (.int (.ofNat (.succ (nat_lit 0))))))) nil))) (cons (cLit (.tuple [(.str ⟨⟨[nat_lit 110,nat_lit 117,nat_lit 109]⟩⟩),(.int (Int.negSucc Nat.zero)),(.int (.ofNat (.succ (nat_lit 0))))])) nil)))) xNil)))
noncomputable def b50(c:Nat→List V→R):List V→R:=fnA 1 1 (xSeq (xAsg 1 false (cSub (cN true 0) (cLit (.int (.ofNat .zero))))) (xSeq (xIte (cCmp .In (cN true 1) (cTup (cons (cLit (.str ⟨⟨[nat_lit 110,nat_lit 117,nat_lit 109]⟩⟩)) (cons (cLit (.str ⟨⟨[nat_lit 115,nat_lit 121,nat_lit 109]⟩⟩)) nil)))) (xSeq (xRet (cN false 0)) xNil) xNil) (xSeq (xIte (cCmp .Eq (cN true 1) (cLit (.str ⟨⟨[nat_lit 115,nat_lit 117,nat_lit 109]⟩⟩))) (xSeq (xRet (cCall F38 (cons (cComp (cCall (c 0) (cons (cN false 2) nil)) 0 (cons (cSub (cN true 0) (cLit (.int (.ofNat (.succ (nat_lit 0)))))) nil) tnil) nil))) xNil) xNil) (xSeq (xIte (cCmp .Eq (cN true 1) (cLit (.str ⟨⟨[nat_lit 112,nat_lit 114,nat_lit 111,nat_lit 100]⟩⟩))) (xSeq (xRet (cCall F47 (cons (cComp (cCall (c 0) (cons (cN false 2) nil)) 0 (cons (cSub (cN true 0) (cLit (.int (.ofNat (.succ (nat_lit 0)))))) nil) tnil) nil))) xNil) xNil) (xSeq (xIte (cCmp .Eq (cN true 1) (cLit (.str ⟨⟨[nat_lit 112,nat_lit 111,nat_lit 119]⟩⟩))) (xSeq (xRet (cCall F49 (cons (cCall (c 0) (cons (cSub (cN true 0) (cLit (.int (.ofNat (.succ (nat_lit 0)))))) nil)) (cons (cCall (c 0) (cons (cSub (cN true 0) (cLit (.int (.ofNat (.succ (nat_lit 1)))))) nil)) nil)))) xNil) xNil) (xSeq (xIte (cCmp .Eq (cN true 1) (cLit (.str ⟨⟨[nat_lit 99,nat_lit 97,nat_lit 108,nat_lit 108]⟩⟩))) (xSeq (xRet cStuck) xNil) xNil) (xSeq (xIte (cCmp .Eq (cN true 1) (cLit (.str ⟨⟨[nat_lit 101,nat_lit 113]⟩⟩))) (xSeq (xRet (cTup (cons (cLit (.str ⟨⟨[nat_lit 101,nat_lit 113]⟩⟩)) (cons (cCall (c 0) (cons (cSub (cN true 0) (cLit (.int (.ofNat (.succ (nat_lit 0)))))) nil)) (cons (cCall (c 0) (cons (cSub (cN true 0) (cLit (.int (.ofNat (.succ (nat_lit 1)))))) nil)) nil))))) xNil) xNil) (xSeq (xRet (cTup (cons (cLit (.str ⟨⟨[nat_lit 108,nat_lit 105,nat_lit 115,nat_lit 116]⟩⟩)) (cons (cBi .tuple (cons (cComp (cCall (c 0) (cons (cN false 2) nil)) 0 (cons (cSub (cN true 0) (cLit (.int (.ofNat (.succ (nat_lit 0)))))) nil) tnil) nil)) nil)))) xNil))))))))
noncomputable def cl50(n:Nat):Nat→List V→R:=@Nat.rec (fun _=>Nat→List V→R) (fun _ _=>none) (fun _ c m=>b50 c) n
noncomputable def F50:List V→R:=cl50 40 0
noncomputable def F51:List V→R:=fnA 1 2 (xSeq (xAsgL (gnm 1 false (gnm 2 false gnil)) (cons (cLit .none) (cons (cCall F44 (cons (cN false 0) nil)) nil))) (xSeq (xWhl 1000 (cCmp .NotEq (cN true 2) (cN true 1)) (xSeq (xAsgL (gnm 1 false (gnm 2 false gnil)) (cons (cN false 2) (cons (cCall F50 (cons (cN false 2) nil)) nil))) xNil)) (xSeq (xRet (cN false 2)) xNil)))
noncomputable def F52:List V→R:=fnA 1 1 (xSeq (xAsg 1 false (cBi .len (cons (cN true 0) nil))) (xSeq (xWhl 1000 (cAnd2 (cCmp .Gt (cN true 1) (cLit (.int (.ofNat .zero)))) (cCmp .Eq (cSub (cN true 0) (cBin .Sub (cN false 1) (cLit (.int (.ofNat (.succ (nat_lit 0))))))) (cLit (.int (.ofNat .zero))))) (xSeq (xAug 1 .Sub (cLit (.int (.ofNat (.succ (nat_lit 0)))))) xNil)) (xSeq (xRet (cBi .list (cons (cSlice (cN true 0) none (some (cN false 1))) nil))) xNil)))
noncomputable def F53:List V→R:=fnA 1 0 (xSeq (xRet (cBin .Sub (cBi .len (cons (cN true 0) nil)) (cLit (.int (.ofNat (.succ (nat_lit 0))))))) xNil)
noncomputable def F54:List V→R:=fnA 1 0 (xSeq (xRet (cIte (cCmp .Gt (cBi .len (cons (cN true 0) nil)) (cLit (.int (.ofNat .zero)))) (cSub (cN true 0) (cNeg (cLit (.int (.ofNat (.succ (nat_lit 0))))))) (cLit (.int (.ofNat .zero))))) xNil)
noncomputable def F55:List V→R:=fnA 2 1 (xSeq (xAsg 2 false (cBi .max (cons (cBi .len (cons (cN true 0) nil)) (cons (cBi .len (cons (cN true 1) nil)) nil)))) (xSeq (xRet (cCall F52 (cons (cComp (cBin .Add (cIte (cCmp .Lt (cN true 3) (cBi .len (cons (cN true 0) nil))) (cSub (cN true 0) (cN false 3)) (cLit (.int (.ofNat .zero)))) (cIte (cCmp .Lt (cN true 3) (cBi .len (cons (cN true 1) nil))) (cSub (cN true 1) (cN false 3)) (cLit (.int (.ofNat .zero))))) 1 (cons (cN true 2) nil) tnil) nil))) xNil))
noncomputable def F56:List V→R:=fnA 1 0 (xSeq (xRet (cComp (cNeg (cN false 1)) 0 (cons (cN true 0) nil) tnil)) xNil)
noncomputable def F57:List V→R:=fnA 2 0 (xSeq (xRet (cCall F55 (cons (cN false 0) (cons (cCall F56 (cons (cN false 1) nil)) nil)))) xNil)
noncomputable def F58:List V→R:=fnA 2 0 (xSeq (xRet (cIte (cCmp .NotEq (cN true 1) (cLit (.int (.ofNat .zero)))) (cComp (cBin .Mult (cN false 2) (cN false 1)) 0 (cons (cN true 0) nil) tnil) (cList nil))) xNil)
noncomputable def F59:List V→R:=fnA 2 0 (xSeq (xRet (cIte (cCmp .Gt (cBi .len (cons (cN true 0) nil)) (cLit (.int (.ofNat .zero)))) (cBin .Add (cBin .Mult (cList (cons (cLit (.int (.ofNat .zero))) nil)) (cN false 1)) (cBi .list (cons (cN true 0) nil))) (cList nil))) xNil)
noncomputable def F60:List V→R:=fnA 1 0 (xSeq (xRet (cCall F1 (cons (cN false 0) nil))) xNil)
noncomputable def F61:List V→R:=fnA 2 0 (xSeq (xRet (cComp (cBin .FloorDiv (cN false 2) (cN false 1)) 0 (cons (cN true 0) nil) tnil)) xNil)
noncomputable def F62:List V→R:=fnA 1 1 (xSeq (xIte (cCmp .Eq (cBi .len (cons (cN true 0) nil)) (cLit (.int (.ofNat .zero)))) (xSeq (xRet (cList nil)) xNil) xNil) (xSeq (xAsg 1 false (cCall F60 (cons (cN false 0) nil))) (xSeq (xRet (cCall F61 (cons (cN false 0) (cons (cIte (cCmp .Gt (cSub (cN true 0) (cNeg (cLit (.int (.ofNat (.succ (nat_lit 0))))))) (cLit (.int (.ofNat .zero)))) (cN false 1) (cNeg (cN false 1))) nil)))) xNil)))
noncomputable def F63:List V→R:=fnA 2 3 (xSeq (xAsg 2 true (cBi .list (cons (cN true 0) nil))) (xSeq (xFor [3] 1 (cons (cBin .Sub (cBi .len (cons (cN true 0) nil)) (cLit (.int (.ofNat (.succ (nat_lit 0)))))) nil) (xSeq (xFor [4] 3 (cons (cBin .Sub (cBi .len (cons (cN true 0) nil)) (cLit (.int (.ofNat (.succ (nat_lit 1)))))) (cons (cBin .Sub (cN false 3) (cLit (.int (.ofNat (.succ (nat_lit 0)))))) (cons (cNeg (cLit (.int (.ofNat (.succ (nat_lit 0)))))) nil))) (xSeq (xAugI 2 (cN false 4) .Add (cBin .Mult (cN false 1) (cSub (cN true 2) (cBin .Add (cN false 4) (cLit (.int (.ofNat (.succ (nat_lit 0))))))))) xNil)) xNil)) (xSeq (xFrz [2] (xRet (cN false 2))) xNil)))
noncomputable def F64:List V→R:=fnA 1 1 (xSeq (xAsg 1 false (cBi .len (cons (cN true 0) nil))) (xSeq (xWhl 1000 (cAnd2 (cCmp .Gt (cN true 1) (cLit (.int (.ofNat .zero)))) (cCmp .Eq (cSub (cSub (cN true 0) (cBin .Sub (cN false 1) (cLit (.int (.ofNat (.succ (nat_lit 0))))))) (cLit (.int (.ofNat .zero)))) (cLit (.int (.ofNat .zero))))) (xSeq (xAug 1 .Sub (cLit (.int (.ofNat (.succ (nat_lit 0)))))) xNil)) (xSeq (xRet (cBi .list (cons (cSlice (cN true 0) none (some (cN false 1))) nil))) xNil)))
noncomputable def F65:List V→R:=fnA 1 0 (xSeq (xRet (cBin .Sub (cBi .len (cons (cN true 0) nil)) (cLit (.int (.ofNat (.succ (nat_lit 0))))))) xNil)
noncomputable def F66:List V→R:=fnA 1 0 (xSeq (xRet (cIte (cCmp .Gt (cBi .len (cons (cN true 0) nil)) (cLit (.int (.ofNat .zero)))) (cSub (cN true 0) (cNeg (cLit (.int (.ofNat (.succ (nat_lit 0))))))) (cLit (.tuple [(.int (.ofNat .zero)),(.int (.ofNat (.succ (nat_lit 0))))])))) xNil)
noncomputable def F67:List V→R:=fnA 2 1 (xSeq (xAsg 2 false (cBi .max (cons (cBi .len (cons (cN true 0) nil)) (cons (cBi .len (cons (cN true 1) nil)) nil)))) (xSeq (xRet (cCall F64 (cons (cComp (cCall F3 (cons (cIte (cCmp .Lt (cN true 3) (cBi .len (cons (cN true 0) nil))) (cSub (cN true 0) (cN false 3)) (cLit (.tuple [(.int (.ofNat .zero)),(.int (.ofNat (.succ (nat_lit 0))))]))) (cons (cIte (cCmp .Lt (cN true 3) (cBi .len (cons (cN true 1) nil))) (cSub (cN true 1) (cN false 3)) (cLit (.tuple [(.int (.ofNat .zero)),(.int (.ofNat (.succ (nat_lit 0))))]))) nil))) 1 (cons (cN true 2) nil) tnil) nil))) xNil))
noncomputable def F68:List V→R:=fnA 1 0 (xSeq (xRet (cComp (cCall F7 (cons (cN false 1) nil)) 0 (cons (cN true 0) nil) tnil)) xNil)
noncomputable def F69:List V→R:=fnA 2 0 (xSeq (xRet (cCall F67 (cons (cN false 0) (cons (cCall F68 (cons (cN false 1) nil)) nil)))) xNil)
noncomputable def F70:List V→R:=fnA 2 0 (xSeq (xRet (cIte (cCmp .NotEq (cSub (cN true 1) (cLit (.int (.ofNat .zero)))) (cLit (.int (.ofNat .zero)))) (cComp (cCall F5 (cons (cN false 2) (cons (cN false 1) nil))) 0 (cons (cN true 0) nil) tnil) (cList nil))) xNil)
noncomputable def F71:List V→R:=fnA 2 0 (xSeq (xRet (cIte (cCmp .Gt (cBi .len (cons (cN true 0) nil)) (cLit (.int (.ofNat .zero)))) (cBin .Add (cBin .Mult (cList (cons (cLit (.tuple [(.int (.ofNat .zero)),(.int (.ofNat (.succ (nat_lit 0))))])) nil)) (cN false 1)) (cBi .list (cons (cN true 0) nil))) (cList nil))) xNil)
noncomputable def F72:List V→R:=fnA 2 5 (xSeq (xIte (cOr2 (cCmp .Eq (cBi .len (cons (cN true 0) nil)) (cLit (.int (.ofNat .zero)))) (cCmp .Eq (cBi .len (cons (cN true 1) nil)) (cLit (.int (.ofNat .zero))))) (xSeq (xRet (cList nil)) xNil) xNil) (xSeq (xAsg 2 true (cBin .Mult (cList (cons (cLit (.tuple [(.int (.ofNat .zero)),(.int (.ofNat (.succ (nat_lit 0))))])) nil)) (cBin .Sub (cBin .Add (cBi .len (cons (cN true 0) nil)) (cBi .len (cons (cN true 1) nil))) (cLit (.int (.ofNat (.succ (nat_lit 0)))))))) (xSeq (xFor [3,4] 4 (cons (cN false 0) nil) (xSeq (xFor [5,6] 4 (cons (cN false 1) nil) (xSeq (xSetI 2 (cBin .Add (cN false 3) (cN false 5)) (cCall F3 (cons (cSub (cN true 2) (cBin .Add (cN false 3) (cN false 5))) (cons (cCall F5 (cons (cN false 4) (cons (cN false 6) nil))) nil)))) xNil)) xNil)) (xSeq (xFrz [2] (xRet (cN false 2))) xNil))))
noncomputable def F73:List V→R:=fnA 2 5 (xSeq (xIte (cCmp .Eq (cBi .len (cons (cN true 1) nil)) (cLit (.int (.ofNat .zero)))) (xSeq xStuck xNil) xNil) (xSeq (xAsgL (gnm 2 false (gnm 3 true gnil)) (cons (cBi .list (cons (cN true 0) nil)) (cons (cBin .Mult (cList (cons (cLit (.tuple [(.int (.ofNat .zero)),(.int (.ofNat (.succ (nat_lit 0))))])) nil)) (cBi .max (cons (cLit (.int (.ofNat .zero))) (cons (cBin .Add (cBin .Sub (cBi .len (cons (cN true 0) nil)) (cBi .len (cons (cN true 1) nil))) (cLit (.int (.ofNat (.succ (nat_lit 0)))))) nil)))) nil))) (xSeq (xWhl 1000 (cCmp .GtE (cBi .len (cons (cN true 2) nil)) (cBi .len (cons (cN true 1) nil))) (xSeq (xAsgL (gnm 4 false (gnm 5 false gnil)) (cons (cCall F6 (cons (cSub (cN true 2) (cNeg (cLit (.int (.ofNat (.succ (nat_lit 0))))))) (cons (cSub (cN true 1) (cNeg (cLit (.int (.ofNat (.succ (nat_lit 0))))))) nil))) (cons (cBin .Sub (cBi .len (cons (cN true 2) nil)) (cBi .len (cons (cN true 1) nil))) nil))) (xSeq (xSetI 3 (cN false 5) (cN false 4)) (xSeq (xAsg 6 false (cCall F69 (cons (cSlice (cN true 2) none (some (cNeg (cLit (.int (.ofNat (.succ (nat_lit 0)))))))) (cons (cCall F71 (cons (cCall F70 (cons (cSlice (cN true 1) none (some (cNeg (cLit (.int (.ofNat (.succ (nat_lit 0)))))))) (cons (cN false 4) nil))) (cons (cN false 5) nil))) nil)))) (xSeq (xAsg 2 false (cN false 6)) xNil))))) (xSeq (xFrz [3] (xRet (cTup (cons (cCall F64 (cons (cN false 3) nil)) (cons (cN false 2) nil))))) xNil))))
noncomputable def F74:List V→R:=fnA 1 0 (xSeq (xRet (cIte (cCmp .Gt (cBi .len (cons (cN true 0) nil)) (cLit (.int (.ofNat .zero)))) (cCall F70 (cons (cN false 0) (cons (cCall F8 (cons (cSub (cN true 0) (cNeg (cLit (.int (.ofNat (.succ (nat_lit 0))))))) nil)) nil))) (cList nil))) xNil)
noncomputable def F75:List V→R:=fnA 2 0 (xSeq (xWhl 1000 (cCmp .Gt (cBi .len (cons (cN true 1) nil)) (cLit (.int (.ofNat .zero)))) (xSeq (xAsgL (gnm 0 false (gnm 1 false gnil)) (cons (cN false 1) (cons (cCall F74 (cons (cSub (cCall F73 (cons (cN false 0) (cons (cN false 1) nil))) (cLit (.int (.ofNat (.succ (nat_lit 0)))))) nil)) nil))) xNil)) (xSeq (xRet (cCall F74 (cons (cN false 0) nil))) xNil))
noncomputable def F76:List V→R:=fnA 2 2 (xSeq (xAsg 2 false (cList nil)) (xSeq (xFor [3] 5 (cons (cN false 0) nil) (xSeq (xAsg 2 false (cCall F67 (cons (cCall F72 (cons (cN false 2) (cons (cN false 1) nil))) (cons (cCall F64 (cons (cList (cons (cN false 3) nil)) nil)) nil)))) xNil)) (xSeq (xRet (cN false 2)) xNil)))
noncomputable def F77:List V→R:=fnA 1 4 (xSeq (xIte (cCmp .Eq (cBi .len (cons (cN true 0) nil)) (cLit (.int (.ofNat .zero)))) (xSeq (xRet (cTup (cons (cList nil) (cons (cLit (.tuple [(.int (.ofNat .zero)),(.int (.ofNat (.succ (nat_lit 0))))])) nil)))) xNil) xNil) (xSeq (xAsg 1 false (cLit (.int (.ofNat (.succ (nat_lit 0)))))) (xSeq (xFor [2] 0 (cons (cN false 0) nil) (xSeq (xAsg 1 false (cBin .Mult (cBin .FloorDiv (cN false 1) (cCall F0 (cons (cN false 1) (cons (cSub (cN true 2) (cLit (.int (.ofNat (.succ (nat_lit 0)))))) nil)))) (cSub (cN true 2) (cLit (.int (.ofNat (.succ (nat_lit 0)))))))) xNil)) (xSeq (xAsg 3 false (cComp (cBin .Mult (cSub (cN true 5) (cLit (.int (.ofNat .zero)))) (cBin .FloorDiv (cN false 1) (cSub (cN true 5) (cLit (.int (.ofNat (.succ (nat_lit 0)))))))) 0 (cons (cN true 0) nil) tnil)) (xSeq (xAsg 4 false (cCall F60 (cons (cN false 3) nil))) (xSeq (xRet (cTup (cons (cCall F62 (cons (cN false 3) nil)) (cons (cCall F2 (cons (cIte (cCmp .Gt (cSub (cN true 3) (cNeg (cLit (.int (.ofNat (.succ (nat_lit 0))))))) (cLit (.int (.ofNat .zero)))) (cN false 4) (cNeg (cN false 4))) (cons (cN false 1) nil))) nil)))) xNil))))))
noncomputable def F78:List V→R:=fnA 2 2 (xSeq (xIte (cCmp .Eq (cN true 1) (cList nil)) (xSeq xStuck xNil) xNil) (xSeq (xIte (cCmp .Eq (cN true 0) (cList nil)) (xSeq (xRet (cLit (.tuple [(.list []),(.list [(.tuple [(.int (.ofNat (.succ (nat_lit 0)))),(.int (.ofNat (.succ (nat_lit 0))))])])]))) xNil) xNil) (xSeq (xAsg 2 false (cCall F75 (cons (cN false 0) (cons (cN false 1) nil)))) (xSeq (xIte (cCmp .Gt (cCall F65 (cons (cN false 2) nil)) (cLit (.int (.ofNat .zero)))) (xSeq (xAsgL (gnm 0 false (gnm 1 false gnil)) (cons (cSub (cCall F73 (cons (cN false 0) (cons (cN false 2) nil))) (cLit (.int (.ofNat .zero)))) (cons (cSub (cCall F73 (cons (cN false 1) (cons (cN false 2) nil))) (cLit (.int (.ofNat .zero)))) nil))) xNil) xNil) (xSeq (xAsg 3 false (cCall F8 (cons (cCall F66 (cons (cN false 1) nil)) nil))) (xSeq (xRet (cTup (cons (cCall F70 (cons (cN false 0) (cons (cN false 3) nil))) (cons (cCall F70 (cons (cN false 1) (cons (cN false 3) nil))) nil)))) xNil))))))
noncomputable def F79:List V→R:=fnA 1 0 (xSeq (xRet (cTup (cons (cIte (cCmp .Eq (cN true 0) (cLit (.tuple [(.int (.ofNat .zero)),(.int (.ofNat (.succ (nat_lit 0))))]))) (cList nil) (cList (cons (cN false 0) nil))) (cons (cList (cons (cLit (.tuple [(.int (.ofNat (.succ (nat_lit 0)))),(.int (.ofNat (.succ (nat_lit 0))))])) nil)) nil)))) xNil)
noncomputable def F80:List V→R:=fnA 2 0 (xSeq (xRet (cCall F78 (cons (cCall F67 (cons (cCall F72 (cons (cSub (cN true 0) (cLit (.int (.ofNat .zero)))) (cons (cSub (cN true 1) (cLit (.int (.ofNat (.succ (nat_lit 0)))))) nil))) (cons (cCall F72 (cons (cSub (cN true 1) (cLit (.int (.ofNat .zero)))) (cons (cSub (cN true 0) (cLit (.int (.ofNat (.succ (nat_lit 0)))))) nil))) nil))) (cons (cCall F72 (cons (cSub (cN true 0) (cLit (.int (.ofNat (.succ (nat_lit 0)))))) (cons (cSub (cN true 1) (cLit (.int (.ofNat (.succ (nat_lit 0)))))) nil))) nil)))) xNil)
noncomputable def F81:List V→R:=fnA 2 0 (xSeq (xRet (cCall F78 (cons (cCall F72 (cons (cSub (cN true 0) (cLit (.int (.ofNat .zero)))) (cons (cSub (cN true 1) (cLit (.int (.ofNat .zero)))) nil))) (cons (cCall F72 (cons (cSub (cN true 0) (cLit (.int (.ofNat (.succ (nat_lit 0)))))) (cons (cSub (cN true 1) (cLit (.int (.ofNat (.succ (nat_lit 0)))))) nil))) nil)))) xNil)
noncomputable def F82:List V→R:=fnA 2 0 (xSeq (xRet (cCall F78 (cons (cCall F72 (cons (cSub (cN true 0) (cLit (.int (.ofNat .zero)))) (cons (cSub (cN true 1) (cLit (.int (.ofNat (.succ (nat_lit 0)))))) nil))) (cons (cCall F72 (cons (cSub (cN true 0) (cLit (.int (.ofNat (.succ (nat_lit 0)))))) (cons (cSub (cN true 1) (cLit (.int (.ofNat .zero)))) nil))) nil)))) xNil)
noncomputable def F83:List V→R:=fnA 2 3 (xSeq (xAsgL (gnm 2 false (gnm 3 false (gnm 4 false gnil))) (cons (cLit (.tuple [(.list [(.tuple [(.int (.ofNat (.succ (nat_lit 0)))),(.int (.ofNat (.succ (nat_lit 0))))])]),(.list [(.tuple [(.int (.ofNat (.succ (nat_lit 0)))),(.int (.ofNat (.succ (nat_lit 0))))])])])) (cons (cIte (cCmp .Lt (cN true 1) (cLit (.int (.ofNat .zero)))) cStuck (cN false 0)) (cons (cBi .abs (cons (cN true 1) nil)) nil)))) (xSeq (xWhl 1000 (cCmp .Gt (cN true 4) (cLit (.int (.ofNat .zero)))) (xSeq (xIte (cCmp .Eq (cBin .Mod (cN false 4) (cLit (.int (.ofNat (.succ (nat_lit 1)))))) (cLit (.int (.ofNat (.succ (nat_lit 0)))))) (xSeq (xAsg 2 false (cCall F81 (cons (cN false 2) (cons (cN false 3) nil)))) xNil) xNil) (xSeq (xAsgL (gnm 3 false (gnm 4 false gnil)) (cons (cIte (cCmp .Gt (cN true 4) (cLit (.int (.ofNat (.succ (nat_lit 0)))))) (cCall F81 (cons (cN false 3) (cons (cN false 3) nil))) (cN false 3)) (cons (cBin .FloorDiv (cN false 4) (cLit (.int (.ofNat (.succ (nat_lit 1)))))) nil))) xNil))) (xSeq (xRet (cN false 2)) xNil)))
noncomputable def F84:List V→R:=fnA 1 0 (xSeq (xRet (cIte (cAnd2 (cCmp .Eq (cSub (cN true 0) (cLit (.int (.ofNat .zero)))) (cLit (.str ⟨⟨[nat_lit 110,nat_lit 117,nat_lit 109]⟩⟩))) (cCmp .Eq (cSub (cN true 0) (cLit (.int (.ofNat (.succ (nat_lit 1)))))) (cLit (.int (.ofNat (.succ (nat_lit 0))))))) (cSub (cN true 0) (cLit (.int (.ofNat (.succ (nat_lit 0)))))) (cLit .none))) xNil)
noncomputable def b85(c:Nat→List V→R):List V→R:=fnA 2 5 (xSeq (xIte (cCmp .Eq (cSub (cN true 0) (cLit (.int (.ofNat .zero)))) (cLit (.str ⟨⟨[nat_lit 110,nat_lit 117,nat_lit 109]⟩⟩))) (xSeq (xRet (cCall F79 (cons (cCall F2 (cons (cSub (cN true 0) (cLit (.int (.ofNat (.succ (nat_lit 0)))))) (cons (cSub (cN true 0) (cLit (.int (.ofNat (.succ (nat_lit 1)))))) nil))) nil))) xNil) xNil) (xSeq (xIte (cCmp .Eq (cSub (cN true 0) (cLit (.int (.ofNat .zero)))) (cLit (.str ⟨⟨[nat_lit 115,nat_lit 121,nat_lit 109]⟩⟩))) (xSeq (xRet (cIte (cCmp .Eq (cSub (cN true 0) (cLit (.int (.ofNat (.succ (nat_lit 0)))))) (cN true 1)) (cTup (cons (cList (cons (cLit (.tuple [(.int (.ofNat .zero)),(.int (.ofNat (.succ (nat_lit 0))))])) (cons (cLit (.tuple [(.int (.ofNat (.succ (nat_lit 0)))),(.int (.ofNat (.succ (nat_lit 0))))])) nil))) (cons (cList (cons (cLit (.tuple [(.int (.ofNat (.succ (nat_lit 0)))),(.int (.ofNat (.succ (nat_lit 0))))])) nil)) nil))) (cLit .none))) xNil) xNil) (xSeq (xIte (cCmp .Eq (cSub (cN true 0) (cLit (.int (.ofNat .zero)))) (cLit (.str ⟨⟨[nat_lit 112,nat_lit 111,nat_lit 119]⟩⟩))) (xSeq (xAsgL (gnm 2 false (gnm 3 false gnil)) (cons (cCall (c 0) (cons (cSub (cN true 0) (cLit (.int (.ofNat (.succ (nat_lit 0)))))) (cons (cN false 1) nil))) (cons (cCall F84 (cons (cSub (cN true 0) (cLit (.int (.ofNat (.succ (nat_lit 1)))))) nil)) nil))) (xSeq (xRet (cIte (cOr2 (cCmp .Is (cN true 2) (cLit .none)) (cOr2 (cCmp .Is (cN true 3) (cLit .none)) (cAnd2 (cCmp .Lt (cN true 3) (cLit (.int (.ofNat .zero)))) (cCmp .Eq (cSub (cN true 2) (cLit (.int (.ofNat .zero)))) (cList nil))))) (cLit .none) (cCall F83 (cons (cN false 2) (cons (cN false 3) nil))))) xNil)) xNil) (xSeq (xIte (cAnd2 (cCmp .NotEq (cSub (cN true 0) (cLit (.int (.ofNat .zero)))) (cLit (.str ⟨⟨[nat_lit 115,nat_lit 117,nat_lit 109]⟩⟩))) (cCmp .NotEq (cSub (cN true 0) (cLit (.int (.ofNat .zero)))) (cLit (.str ⟨⟨[nat_lit 112,nat_lit 114,nat_lit 111,nat_lit 100]⟩⟩)))) (xSeq (xRet (cLit .none)) xNil) xNil) (xSeq (xAsg 4 false (cIte (cCmp .Eq (cSub (cN true 0) (cLit (.int (.ofNat .zero)))) (cLit (.str ⟨⟨[nat_lit 115,nat_lit 117,nat_lit 109]⟩⟩))) (cLit (.tuple [(.list []),(.list [(.tuple [(.int (.ofNat (.succ (nat_lit 0)))),(.int (.ofNat (.succ (nat_lit 0))))])])])) (cLit (.tuple [(.list [(.tuple [(.int (.ofNat (.succ (nat_lit 0)))),(.int (.ofNat (.succ (nat_lit 0))))])]),(.list [(.tuple [(.int (.ofNat (.succ (nat_lit 0)))),(.int (.ofNat (.succ (nat_lit 0))))])])])))) (xSeq (xFor [5] 0 (cons (cSub (cN true 0) (cLit (.int (.ofNat (.succ (nat_lit 0)))))) nil) (xSeq (xAsg 6 false (cCall (c 0) (cons (cN false 5) (cons (cN false 1) nil)))) (xSeq (xIte (cCmp .Is (cN true 6) (cLit .none)) (xSeq (xRet (cLit .none)) xNil) xNil) (xSeq (xAsg 4 false (cIte (cCmp .Eq (cSub (cN true 0) (cLit (.int (.ofNat .zero)))) (cLit (.str ⟨⟨[nat_lit 115,nat_lit 117,nat_lit 109]⟩⟩))) (cCall F80 (cons (cN false 4) (cons (cN false 6) nil))) (cCall F81 (cons (cN false 4) (cons (cN false 6) nil))))) xNil)))) (xSeq (xRet (cN false 4)) xNil)))))))
noncomputable def cl85(n:Nat):Nat→List V→R:=@Nat.rec (fun _=>Nat→List V→R) (fun _ _=>none) (fun _ c m=>b85 c) n
noncomputable def F85:List V→R:=cl85 40 0
noncomputable def F86:List V→R:=fnA 1 0 (xSeq (xRet (cCall F10 (cons (cSub (cN true 0) (cLit (.int (.ofNat .zero)))) (cons (cSub (cN true 0) (cLit (.int (.ofNat (.succ (nat_lit 0)))))) nil)))) xNil)
noncomputable def F87:List V→R:=fnA 2 3 (xSeq (xAsg 2 true (cList nil)) (xSeq (xFor [3,4] 4 (cons (cN false 0) nil) (xSeq (xIte (cCmp .NotEq (cN true 4) (cLit (.tuple [(.int (.ofNat .zero)),(.int (.ofNat (.succ (nat_lit 0))))]))) (xSeq (xApp 2 (cCall F13 (cons (cList (cons (cCall F86 (cons (cN false 4) nil)) (cons (cCall F14 (cons (cN false 1) (cons (cCall F10 (cons (cN false 3) (cons (cLit (.int (.ofNat (.succ (nat_lit 0))))) nil))) nil))) nil))) nil))) xNil) xNil) xNil)) (xSeq (xFrz [2] (xRet (cCall F44 (cons (cCall F12 (cons (cN false 2) nil)) nil)))) xNil)))
noncomputable def F88:List V→R:=fnA 2 0 (xSeq (xIte (cCmp .Eq (cSub (cN true 0) (cLit (.int (.ofNat (.succ (nat_lit 0)))))) (cList (cons (cLit (.tuple [(.int (.ofNat (.succ (nat_lit 0)))),(.int (.ofNat (.succ (nat_lit 0))))])) nil))) (xSeq (xRet (cCall F87 (cons (cSub (cN true 0) (cLit (.int (.ofNat .zero)))) (cons (cN false 1) nil)))) xNil) xNil) (xSeq (xRet (cCall F44 (cons (cCall F13 (cons (cList (cons (cCall F87 (cons (cSub (cN true 0) (cLit (.int (.ofNat .zero)))) (cons (cN false 1) nil))) (cons (cCall F14 (cons (cCall F87 (cons (cSub (cN true 0) (cLit (.int (.ofNat (.succ (nat_lit 0)))))) (cons (cN false 1) nil))) (cons (cLit (.tuple [(.str ⟨⟨[nat_lit 110,nat_lit 117,nat_lit 109]⟩⟩),(.int (Int.negSucc Nat.zero)),(.int (.ofNat (.succ (nat_lit 0))))])) nil))) nil))) nil)) nil))) xNil))
noncomputable def F89:List V→R:=fnA 2 0 (xSeq (xRet (cCall F88 (cons (cN false 0) (cons (cCall F11 (cons (cN false 1) nil)) nil)))) xNil)
noncomputable def F90:List V→R:=fnA 1 0 (xSeq (xIte (cCmp .Eq (cBi .len (cons (cN true 0) nil)) (cLit (.int (.ofNat .zero)))) (xSeq xStuck xNil) xNil) xNil)
noncomputable def F91:List V→R:=fnA 2 8 (xSeq (xDrop (cCall F90 (cons (cN false 1) nil))) (xSeq (xAsg 2 false (cBi .max (cons (cLit (.int (.ofNat .zero))) (cons (cBin .Add (cBin .Sub (cBi .len (cons (cN true 0) nil)) (cBi .len (cons (cN true 1) nil))) (cLit (.int (.ofNat (.succ (nat_lit 0)))))) nil)))) (xSeq (xAsgL (gnm 3 false (gnm 4 false (gnm 5 false (gnm 6 false gnil)))) (cons (cBi .list (cons (cN true 0) nil)) (cons (cList nil) (cons (cN false 2) (cons (cCall F54 (cons (cN false 1) nil)) nil))))) (xSeq (xWhl 1000 (cCmp .GtE (cBi .len (cons (cN true 3) nil)) (cBi .len (cons (cN true 1) nil))) (xSeq (xAsgL (gnm 7 false (gnm 8 false gnil)) (cons (cSub (cN true 3) (cNeg (cLit (.int (.ofNat (.succ (nat_lit 0))))))) (cons (cBin .Sub (cBi .len (cons (cN true 3) nil)) (cBi .len (cons (cN true 1) nil))) nil))) (xSeq (xAsg 4 false (cCall F57 (cons (cCall F58 (cons (cN false 4) (cons (cN false 6) nil))) (cons (cCall F59 (cons (cList (cons (cNeg (cN false 7)) nil)) (cons (cN false 8) nil))) nil)))) (xSeq (xAsg 3 false (cCall F57 (cons (cCall F58 (cons (cN false 3) (cons (cN false 6) nil))) (cons (cCall F59 (cons (cCall F58 (cons (cN false 1) (cons (cN false 7) nil))) (cons (cN false 8) nil))) nil)))) (xSeq (xAug 5 .Sub (cLit (.int (.ofNat (.succ (nat_lit 0)))))) xNil))))) (xSeq (xAsg 9 false (cBin .Pow (cN false 6) (cN false 5))) (xSeq (xRet (cTup (cons (cCall F58 (cons (cN false 4) (cons (cN false 9) nil))) (cons (cCall F58 (cons (cN false 3) (cons (cN false 9) nil))) (cons (cN false 2) nil))))) xNil))))))
noncomputable def F92:List V→R:=fnA 2 0 (xSeq (xRet (cComp (cBin .FloorDiv (cN false 2) (cN false 1)) 0 (cons (cN true 0) nil) tnil)) xNil)
noncomputable def F93:List V→R:=fnA 2 4 (xSeq (xAsgT [2,3,4] (cCall F91 (cons (cN false 0) (cons (cN false 1) nil)))) (xSeq (xAsg 5 false (cBin .Sub (cBin .Add (cBin .Sub (cCall F53 (cons (cN false 0) nil)) (cCall F53 (cons (cN false 1) nil))) (cLit (.int (.ofNat (.succ (nat_lit 0)))))) (cN false 4))) (xSeq (xRet (cComp (cBin .Mult (cN false 6) (cBin .Pow (cCall F54 (cons (cN false 1) nil)) (cN false 5))) 0 (cons (cN true 3) nil) tnil)) xNil)))
noncomputable def F94:List V→R:=fnA 3 5 (xSeq (xAsgL (gnm 3 false (gnm 4 false gnil)) (cons (cLit (.int (.ofNat (.succ (nat_lit 0))))) (cons (cLit (.int (.ofNat (.succ (nat_lit 0))))) nil))) (xSeq (xWhl 1000 (cCmp .Gt (cCall F53 (cons (cN false 1) nil)) (cLit (.int (.ofNat .zero)))) (xSeq (xAsg 5 false (cBin .Sub (cCall F53 (cons (cN false 0) nil)) (cCall F53 (cons (cN false 1) nil)))) (xSeq (xIte (cAnd2 (cCmp .Eq (cBin .Mod (cCall F53 (cons (cN false 0) nil)) (cLit (.int (.ofNat (.succ (nat_lit 1)))))) (cLit (.int (.ofNat (.succ (nat_lit 0)))))) (cCmp .Eq (cBin .Mod (cCall F53 (cons (cN false 1) nil)) (cLit (.int (.ofNat (.succ (nat_lit 1)))))) (cLit (.int (.ofNat (.succ (nat_lit 0))))))) (xSeq (xAsg 2 false (cNeg (cN false 2))) xNil) xNil) (xSeq (xAsg 6 false (cCall F93 (cons (cN false 0) (cons (cN false 1) nil)))) (xSeq (xAsgL (gnm 0 false (gnm 1 false gnil)) (cons (cN false 1) (cons (cCall F92 (cons (cN false 6) (cons (cBin .Mult (cN false 3) (cBin .Pow (cN false 4) (cN false 5))) nil))) nil))) (xSeq (xAsg 3 false (cCall F54 (cons (cN false 0) nil))) (xSeq (xIte (cCmp .Gt (cN true 5) (cLit (.int (.ofNat .zero)))) (xSeq (xAsg 4 false (cBin .FloorDiv (cBin .Pow (cN false 3) (cN false 5)) (cBin .Pow (cN false 4) (cBin .Sub (cN false 5) (cLit (.int (.ofNat (.succ (nat_lit 0))))))))) xNil) xNil) xNil))))))) (xSeq (xIte (cCmp .Eq (cN true 1) (cList nil)) (xSeq (xRet (cLit (.int (.ofNat .zero)))) xNil) xNil) (xSeq (xAsg 7 false (cCall F53 (cons (cN false 0) nil))) (xSeq (xRet (cBin .Mult (cN false 2) (cIte (cCmp .Gt (cN true 7) (cLit (.int (.ofNat .zero)))) (cBin .FloorDiv (cBin .Pow (cSub (cN true 1) (cLit (.int (.ofNat .zero)))) (cN false 7)) (cBin .Pow (cN false 4) (cBin .Sub (cN false 7) (cLit (.int (.ofNat (.succ (nat_lit 0)))))))) (cLit (.int (.ofNat (.succ (nat_lit 0)))))))) xNil)))))
noncomputable def F95:List V→R:=fnA 2 4 (xSeq (xIte (cOr2 (cCmp .Eq (cN true 0) (cList nil)) (cCmp .Eq (cN true 1) (cList nil))) (xSeq (xRet (cLit (.int (.ofNat .zero)))) xNil) xNil) (xSeq (xAsg 2 false (cLit (.int (.ofNat (.succ (nat_lit 0)))))) (xSeq (xIte (cCmp .Lt (cCall F53 (cons (cN false 0) nil)) (cCall F53 (cons (cN false 1) nil))) (xSeq (xAsgL (gnm 0 false (gnm 1 false gnil)) (cons (cN false 1) (cons (cN false 0) nil))) (xSeq (xAsg 2 false (cIte (cAnd2 (cCmp .Eq (cBin .Mod (cCall F53 (cons (cN false 0) nil)) (cLit (.int (.ofNat (.succ (nat_lit 1)))))) (cLit (.int (.ofNat (.succ (nat_lit 0)))))) (cCmp .Eq (cBin .Mod (cCall F53 (cons (cN false 1) nil)) (cLit (.int (.ofNat (.succ (nat_lit 1)))))) (cLit (.int (.ofNat (.succ (nat_lit 0))))))) (cNeg (cLit (.int (.ofNat (.succ (nat_lit 0)))))) (cLit (.int (.ofNat (.succ (nat_lit 0))))))) xNil)) xNil) (xSeq (xAsgL (gnm 3 false (gnm 4 false gnil)) (cons (cCall F60 (cons (cN false 0) nil)) (cons (cCall F60 (cons (cN false 1) nil)) nil))) (xSeq (xAsg 5 false (cBin .Mult (cBin .Pow (cN false 3) (cCall F53 (cons (cN false 1) nil))) (cBin .Pow (cN false 4) (cCall F53 (cons (cN false 0) nil))))) (xSeq (xRet (cBin .Mult (cN false 5) (cCall F94 (cons (cCall F92 (cons (cN false 0) (cons (cN false 3) nil))) (cons (cCall F92 (cons (cN false 1) (cons (cN false 4) nil))) (cons (cN false 2) nil)))))) xNil))))))
noncomputable def F96:List V→R:=fnA 1 1 (xSeq (xAsg 1 false (cBi .maxL (cons (cComp (cBi .abs (cons (cN true 2) nil)) 0 (cons (cN true 0) nil) tnil) nil))) (xSeq (xRet (cBin .Add (cLit (.int (.ofNat (.succ (nat_lit 1))))) (cBin .FloorDiv (cN false 1) (cBi .abs (cons (cCall F54 (cons (cN false 0) nil)) nil))))) xNil))
noncomputable def F97:List V→R:=fnA 1 1 (xSeq (xAsg 1 true (cList nil)) (xSeq (xWhl 1000 (cCmp .Gt (cBi .len (cons (cN true 0) nil)) (cLit (.int (.ofNat .zero)))) (xSeq (xApp 1 (cSub (cN true 0) (cLit (.int (.ofNat .zero))))) (xSeq (xAsg 0 false (cComp (cBin .Sub (cSub (cN true 0) (cBin .Add (cN false 2) (cLit (.int (.ofNat (.succ (nat_lit 0))))))) (cSub (cN true 0) (cN false 2))) 1 (cons (cBin .Sub (cBi .len (cons (cN true 0) nil)) (cLit (.int (.ofNat (.succ (nat_lit 0)))))) nil) tnil)) xNil))) (xSeq (xFrz [1] (xRet (cN false 1))) xNil)))
noncomputable def F98:List V→R:=fnA 2 4 (xSeq (xAsgL (gnm 2 true (gnm 3 true gnil)) (cons (cBi .list (cons (cN true 0) nil)) (cons (cList nil) nil))) (xSeq (xFor [4] 1 (cons (cBin .Add (cN false 1) (cLit (.int (.ofNat (.succ (nat_lit 0)))))) nil) (xSeq (xIte (cCmp .Eq (cSub (cN true 2) (cLit (.int (.ofNat .zero)))) (cLit (.int (.ofNat .zero)))) (xSeq (xApp 3 (cN false 4)) xNil) xNil) (xSeq (xFor [5] 1 (cons (cBin .Sub (cBi .len (cons (cN true 2) nil)) (cLit (.int (.ofNat (.succ (nat_lit 0)))))) nil) (xSeq (xAugI 2 (cN false 5) .Add (cSub (cN true 2) (cBin .Add (cN false 5) (cLit (.int (.ofNat (.succ (nat_lit 0)))))))) xNil)) xNil))) (xSeq (xFrz [3] (xRet (cN false 3))) xNil)))
noncomputable def F99:List V→R:=fnA 2 2 (xSeq (xIte (cOr2 (cCmp .Lt (cCall F53 (cons (cN false 0) nil)) (cLit (.int (.ofNat (.succ (nat_lit 0)))))) (cCmp .Lt (cCall F53 (cons (cN false 1) nil)) (cLit (.int (.ofNat (.succ (nat_lit 0))))))) (xSeq (xRet (cList nil)) xNil) xNil) (xSeq (xAsg 2 false (cBin .Mult (cCall F53 (cons (cN false 0) nil)) (cCall F53 (cons (cN false 1) nil)))) (xSeq (xAsg 3 false (cComp (cCall F95 (cons (cN false 0) (cons (cCall F63 (cons (cN false 1) (cons (cN false 4) nil))) nil))) 1 (cons (cBin .Add (cN false 2) (cLit (.int (.ofNat (.succ (nat_lit 0)))))) nil) tnil)) (xSeq (xRet (cCall F98 (cons (cCall F97 (cons (cN false 3) nil)) (cons (cBin .Add (cCall F96 (cons (cN false 0) nil)) (cCall F96 (cons (cN false 1) nil))) nil)))) xNil))))
noncomputable def F100:List V→R:=fnA 1 0 (xSeq (xRet (cTup (cons (cBi .len (cons (cN true 0) nil)) (cons (cIte (cCmp .Gt (cBi .len (cons (cN true 0) nil)) (cLit (.int (.ofNat .zero)))) (cBi .len (cons (cSub (cN true 0) (cLit (.int (.ofNat .zero)))) nil)) (cLit (.int (.ofNat .zero)))) nil)))) xNil)
noncomputable def F101:List V→R:=fnA 2 0 (xSeq (xIte (cNot (cN false 0)) (xSeq xStuck xNil) xNil) xNil)
noncomputable def F102:List V→R:=fnA 1 0 (xSeq (xRet (cComp (cBi .list (cons (cN true 1) nil)) 0 (cons (cN true 0) nil) tnil)) xNil)
noncomputable def F103:List V→R:=lnA 3 0 (xSeq (xAsgL (git 0 (cN false 1) (git 0 (cN false 2) gnil)) (cons (cSub (cN true 0) (cN false 2)) (cons (cSub (cN true 0) (cN false 1)) nil))) xNil)
noncomputable def F104:List V→R:=lnA 4 0 (xSeq (xSetI 0 (cN false 1) (cComp (cCall F4 (cons (cN false 5) (cons (cCall F5 (cons (cN false 3) (cons (cSub (cSub (cN true 0) (cN false 2)) (cN false 4)) nil))) nil))) 4 (cons (cSub (cN true 0) (cN false 1)) nil) tnil)) xNil)
noncomputable def F105:List V→R:=fnA 1 7 (xSeq (xAsgL (gnm 1 true (gnm 2 true gnil)) (cons (cCall F102 (cons (cN false 0) nil)) (cons (cList nil) nil))) (xSeq (xFor [3] 1 (cons (cSub (cCall F100 (cons (cN false 0) nil)) (cLit (.int (.ofNat (.succ (nat_lit 0)))))) nil) (xSeq (xAsg 4 false (cBi .len (cons (cN true 2) nil))) (xSeq (xAsg 5 false (cComp (cN false 8) 2 (cons (cN true 4) (cons (cBi .len (cons (cN true 1) nil)) nil)) (tcons (cCmp .NotEq (cSub (cSub (cN true 1) (cN false 8)) (cN false 3)) (cLit (.tuple [(.int (.ofNat .zero)),(.int (.ofNat (.succ (nat_lit 0))))]))) tnil))) (xSeq (xIte (cCmp .Eq (cBi .len (cons (cN true 5) nil)) (cLit (.int (.ofNat .zero)))) (xSeq xCont xNil) xNil) (xSeq (xLend F103 1 (cons (cN false 4) (cons (cSub (cN true 5) (cLit (.int (.ofNat .zero)))) nil))) (xSeq (xAsg 6 false (cSub (cSub (cN true 1) (cN false 4)) (cN false 3))) (xSeq (xSetI 1 (cN false 4) (cComp (cCall F6 (cons (cN false 8) (cons (cN false 6) nil))) 0 (cons (cSub (cN true 1) (cN false 4)) nil) tnil)) (xSeq (xFor [7] 1 (cons (cBi .len (cons (cN true 1) nil)) nil) (xSeq (xIte (cAnd2 (cCmp .NotEq (cN true 7) (cN true 4)) (cCmp .NotEq (cSub (cSub (cN true 1) (cN false 7)) (cN false 3)) (cLit (.tuple [(.int (.ofNat .zero)),(.int (.ofNat (.succ (nat_lit 0))))])))) (xSeq (xLend F104 1 (cons (cN false 7) (cons (cN false 4) (cons (cSub (cSub (cN true 1) (cN false 7)) (cN false 3)) nil)))) xNil) xNil) xNil)) (xSeq (xApp 2 (cN false 3)) xNil))))))))) (xSeq (xFrz [1,2] (xRet (cTup (cons (cN false 1) (cons (cN false 2) nil))))) xNil)))
noncomputable def F106:List V→R:=fnA 1 7 (xSeq (xAsgT [1,2] (cCall F105 (cons (cN false 0) nil))) (xSeq (xAsg 3 true (cList nil)) (xSeq (xFor [4] 1 (cons (cSub (cCall F100 (cons (cN false 0) nil)) (cLit (.int (.ofNat (.succ (nat_lit 0)))))) nil) (xSeq (xIte (cCmp .In (cN true 4) (cN true 2)) (xSeq xCont xNil) xNil) (xSeq (xAsg 5 true (cBin .Mult (cList (cons (cLit (.tuple [(.int (.ofNat .zero)),(.int (.ofNat (.succ (nat_lit 0))))])) nil)) (cSub (cCall F100 (cons (cN false 0) nil)) (cLit (.int (.ofNat (.succ (nat_lit 0)))))))) (xSeq (xSetI 5 (cN false 4) (cLit (.tuple [(.int (.ofNat (.succ (nat_lit 0)))),(.int (.ofNat (.succ (nat_lit 0))))]))) (xSeq (xFor [6,7] 4 (cons (cN false 2) nil) (xSeq (xSetI 5 (cN false 7) (cCall F7 (cons (cSub (cSub (cN true 1) (cN false 6)) (cN false 4)) nil))) xNil)) (xSeq (xFrz [5] (xApp 3 (cN false 5))) xNil)))))) (xSeq (xFrz [3] (xRet (cN false 3))) xNil))))
noncomputable def F107:List V→R:=fnA 2 6 (xSeq (xDrop (cCall F101 (cons (cCmp .Eq (cBi .len (cons (cN true 0) nil)) (cBi .len (cons (cN true 1) nil))) (cons (cLit (.str ⟨⟨[nat_lit 97,nat_lit 115,nat_lit 32,nat_lit 109,nat_lit 97,nat_lit 110,nat_lit 121,nat_lit 32,nat_lit 110,nat_lit 117,nat_lit 109,nat_lit 98,nat_lit 101,nat_lit 114,nat_lit 115,nat_lit 32,nat_lit 97,nat_lit 115,nat_lit 32,nat_lit 114,nat_lit 111,nat_lit 119,nat_lit 115,nat_lit 32,nat_lit 97,nat_lit 114,nat_lit 101,nat_lit 32,nat_lit 119,nat_lit 97,nat_lit 110,nat_lit 116,nat_lit 101,nat_lit 100]⟩⟩)) nil)))) (xSeq (xAsg 2 false (cSub (cCall F100 (cons (cN false 0) nil)) (cLit (.int (.ofNat (.succ (nat_lit 0))))))) (xSeq (xAsgT [4,5] (cCall F105 (cons (cComp (cBin .Add (cBi .list (cons (cN true 9) nil)) (cList (cons (cSub (cN true 1) (cN false 8)) nil))) 4 (cons (cN true 0) nil) tnil) nil))) (xSeq (xIte (cCmp .In (cN true 2) (cN true 5)) (xSeq (xRet (cTup (cons (cLit .none) (cons (cCall F106 (cons (cN false 0) nil)) nil)))) xNil) xNil) (xSeq (xAsg 6 true (cBin .Mult (cList (cons (cLit (.tuple [(.int (.ofNat .zero)),(.int (.ofNat (.succ (nat_lit 0))))])) nil)) (cN false 2))) (xSeq (xFor [3,7] 4 (cons (cN false 5) nil) (xSeq (xSetI 6 (cN false 7) (cSub (cSub (cN true 4) (cN false 3)) (cN false 2))) xNil)) (xSeq (xFrz [6] (xRet (cTup (cons (cN false 6) (cons (cCall F106 (cons (cN false 0) nil)) nil))))) xNil)))))))
noncomputable def F108:List V→R:=fnA 2 0 (xSeq (xRet (cIte (cCmp .NotEq (cN true 1) (cLit (.int (.ofNat .zero)))) (cCall F76 (cons (cN false 0) (cons (cList (cons (cTup (cons (cN false 1) (cons (cLit (.int (.ofNat (.succ (nat_lit 0))))) nil))) (cons (cLit (.tuple [(.int (.ofNat (.succ (nat_lit 0)))),(.int (.ofNat (.succ (nat_lit 0))))])) nil))) nil))) (cN false 0))) xNil)
noncomputable def F109:List V→R:=fnA 2 6 (xSeq (xAsgL (gnm 2 false (gnm 3 false (gnm 4 false gnil))) (cons (cN false 0) (cons (cN false 1) (cons (cList (cons (cLit (.tuple [(.int (.ofNat (.succ (nat_lit 0)))),(.int (.ofNat (.succ (nat_lit 0))))])) nil)) nil)))) (xSeq (xFor [5] 0 (cons (cCall F99 (cons (cSub (cCall F77 (cons (cN false 2) nil)) (cLit (.int (.ofNat .zero)))) (cons (cSub (cCall F77 (cons (cN false 3) nil)) (cLit (.int (.ofNat .zero)))) nil))) nil) (xSeq (xAsg 6 false (cCall F75 (cons (cN false 2) (cons (cCall F108 (cons (cN false 3) (cons (cN false 5) nil))) nil)))) (xSeq (xIte (cCmp .Gt (cCall F65 (cons (cN false 6) nil)) (cLit (.int (.ofNat .zero)))) (xSeq (xAsgL (gnm 2 false (gnm 3 false gnil)) (cons (cSub (cCall F73 (cons (cN false 2) (cons (cN false 6) nil))) (cLit (.int (.ofNat .zero)))) (cons (cSub (cCall F73 (cons (cN false 3) (cons (cCall F108 (cons (cN false 6) (cons (cNeg (cN false 5)) nil))) nil))) (cLit (.int (.ofNat .zero)))) nil))) (xSeq (xFor [7] 2 (cons (cLit (.int (.ofNat (.succ (nat_lit 0))))) (cons (cBin .Add (cN false 5) (cLit (.int (.ofNat (.succ (nat_lit 0)))))) nil)) (xSeq (xAsg 4 false (cCall F72 (cons (cN false 4) (cons (cCall F108 (cons (cN false 6) (cons (cNeg (cN false 7)) nil))) nil)))) xNil)) xNil)) xNil) xNil))) (xSeq (xRet (cTup (cons (cN false 2) (cons (cN false 3) (cons (cN false 4) nil))))) xNil)))
noncomputable def F110:List V→R:=fnA 2 0 (xSeq (xRet (cIte (cCmp2 .LtE .Lt (cLit (.int (.ofNat .zero))) (cN false 1) (cBi .len (cons (cN true 0) nil))) (cSub (cN true 0) (cN false 1)) (cLit (.tuple [(.int (.ofNat .zero)),(.int (.ofNat (.succ (nat_lit 0))))])))) xNil)
noncomputable def F111:List V→R:=fnA 3 3 (xSeq (xAsg 3 false (cBi .max (cons (cCall F65 (cons (cN false 0) nil)) (cons (cCall F65 (cons (cN false 1) nil)) nil)))) (xSeq (xIte (cOr2 (cCmp .NotEq (cCall F65 (cons (cN false 0) nil)) (cCall F65 (cons (cN false 1) nil))) (cCmp .NotEq (cCall F66 (cons (cN false 0) nil)) (cCall F66 (cons (cN false 1) nil)))) (xSeq (xRet (cBin .Sub (cCall F65 (cons (cN false 2) nil)) (cN false 3))) xNil) xNil) (xSeq (xAsg 4 false (cBin .Add (cBin .Sub (cCall F65 (cons (cN false 2) nil)) (cN false 3)) (cLit (.int (.ofNat (.succ (nat_lit 0))))))) (xSeq (xAsg 5 false (cCall F6 (cons (cCall F4 (cons (cCall F110 (cons (cN false 1) (cons (cBin .Sub (cN false 3) (cLit (.int (.ofNat (.succ (nat_lit 0)))))) nil))) (cons (cCall F110 (cons (cN false 0) (cons (cBin .Sub (cN false 3) (cLit (.int (.ofNat (.succ (nat_lit 0)))))) nil))) nil))) (cons (cCall F66 (cons (cN false 0) nil)) nil)))) (xSeq (xRet (cIte (cAnd2 cStuck (cCmp .GtE (cSub (cN true 5) (cLit (.int (.ofNat .zero)))) (cLit (.int (.ofNat .zero))))) (cBi .max (cons (cN true 4) (cons (cSub (cN true 5) (cLit (.int (.ofNat .zero)))) nil))) (cN false 4))) xNil)))))
noncomputable def F112:List V→R:=fnA 3 0 (xSeq (xRet (cCall F67 (cons (cCall F72 (cons (cN false 0) (cons (cCall F108 (cons (cN false 2) (cons (cLit (.int (.ofNat (.succ (nat_lit 0))))) nil))) nil))) (cons (cCall F68 (cons (cCall F72 (cons (cN false 1) (cons (cN false 2) nil))) nil)) nil)))) xNil)
noncomputable def F114:List V→R:=fnA 1 1 (xSeq (xAsg 1 false (cBi .len (cons (cN true 0) nil))) (xSeq (xWhl 1000 (cAnd2 (cCmp .Gt (cN true 1) (cLit (.int (.ofNat .zero)))) (cCmp .Eq (cSub (cN true 0) (cBin .Sub (cN false 1) (cLit (.int (.ofNat (.succ (nat_lit 0))))))) (cLit (.tuple [(.int (.ofNat .zero)),(.int (.ofNat (.succ (nat_lit 0))))])))) (xSeq (xAug 1 .Sub (cLit (.int (.ofNat (.succ (nat_lit 0)))))) xNil)) (xSeq (xRet (cSlice (cN true 0) none (some (cN false 1)))) xNil)))
noncomputable def F113:List V→R:=fnA 3 5 (xSeq (xIte (cCmp .Eq (cN true 2) (cList nil)) (xSeq (xRet (cList nil)) xNil) xNil) (xSeq (xAsg 3 false (cCall F111 (cons (cN false 0) (cons (cN false 1) (cons (cN false 2) nil))))) (xSeq (xIte (cCmp .Lt (cN true 3) (cLit (.int (.ofNat .zero)))) (xSeq (xRet (cLit .none)) xNil) xNil) (xSeq (xAsg 4 false (cComp (cCall F112 (cons (cN false 0) (cons (cN false 1) (cons (cCall F71 (cons (cList (cons (cLit (.tuple [(.int (.ofNat (.succ (nat_lit 0)))),(.int (.ofNat (.succ (nat_lit 0))))])) nil)) (cons (cN false 8) nil))) nil)))) 1 (cons (cBin .Add (cN false 3) (cLit (.int (.ofNat (.succ (nat_lit 0)))))) nil) tnil)) (xSeq (xAsg 5 false (cBi .maxL (cons (cBin .Add (cComp (cBi .len (cons (cN true 8) nil)) 0 (cons (cN true 4) nil) tnil) (cList (cons (cBi .len (cons (cN true 2) nil)) nil))) nil))) (xSeq (xAsg 6 false (cComp (cComp (cCall F110 (cons (cN false 9) (cons (cN false 8) nil))) 0 (cons (cN true 4) nil) tnil) 1 (cons (cN true 5) nil) tnil)) (xSeq (xAsg 7 false (cSub (cCall F107 (cons (cN false 6) (cons (cComp (cCall F110 (cons (cN false 2) (cons (cN false 8) nil))) 1 (cons (cN true 5) nil) tnil) nil))) (cLit (.int (.ofNat .zero))))) (xSeq (xRet (cIte (cCmp .Is (cN true 7) (cLit .none)) (cLit .none) (cCall F114 (cons (cN false 7) nil)))) xNil))))))))
noncomputable def F115:List V→R:=fnA 1 5 (xSeq (xAsgT [1,2,3] (cCall F109 (cons (cSub (cN true 0) (cLit (.int (.ofNat .zero)))) (cons (cSub (cN true 0) (cLit (.int (.ofNat (.succ (nat_lit 0)))))) nil)))) (xSeq (xAsg 4 false (cCall F108 (cons (cN false 2) (cons (cNeg (cLit (.int (.ofNat (.succ (nat_lit 0)))))) nil)))) (xSeq (xAsg 5 false (cCall F113 (cons (cN false 1) (cons (cN false 4) (cons (cN false 3) nil))))) (xSeq (xRet (cIte (cCmp .Is (cN true 5) (cLit .none)) (cLit .none) (cCall F78 (cons (cCall F72 (cons (cN false 4) (cons (cN false 5) nil))) (cons (cN false 3) nil))))) xNil))))
noncomputable def F116:List V→R:=fnA 2 5 (xSeq (xAsgL (gnm 2 false (gnm 3 true gnil)) (cons (cLit (.int (.ofNat .zero))) (cons (cList nil) nil))) (xSeq (xFor [4] 0 (cons (cIte (cCmp .Eq (cSub (cN true 0) (cLit (.int (.ofNat .zero)))) (cLit (.str ⟨⟨[nat_lit 112,nat_lit 114,nat_lit 111,nat_lit 100]⟩⟩))) (cSub (cN true 0) (cLit (.int (.ofNat (.succ (nat_lit 0)))))) (cTup (cons (cN false 0) nil))) nil) (xSeq (xIte (cNot (cCall F21 (cons (cN false 4) (cons (cN false 1) nil)))) (xSeq (xApp 3 (cN false 4)) (xSeq xCont xNil)) xNil) (xSeq (xAsgT [5,6] (cCall F40 (cons (cN false 4) nil))) (xSeq (xIte (cOr2 (cCmp .NotEq (cN true 5) (cTup (cons (cLit (.str ⟨⟨[nat_lit 115,nat_lit 121,nat_lit 109]⟩⟩)) (cons (cN false 1) nil)))) (cOr2 (cNot (cCall F17 (cons (cN false 6) nil))) (cCmp .Lt (cSub (cN true 6) (cLit (.int (.ofNat (.succ (nat_lit 0)))))) (cLit (.int (.ofNat .zero)))))) (xSeq (xRet (cLit .none)) xNil) xNil) (xSeq (xAug 2 .Add (cSub (cN true 6) (cLit (.int (.ofNat (.succ (nat_lit 0))))))) xNil))))) (xSeq (xFrz [3] (xRet (cTup (cons (cN false 2) (cons (cIte (cCmp .Gt (cBi .len (cons (cN true 3) nil)) (cLit (.int (.ofNat .zero)))) (cCall F41 (cons (cN false 3) nil)) (cLit (.tuple [(.str ⟨⟨[nat_lit 110,nat_lit 117,nat_lit 109]⟩⟩),(.int (.ofNat (.succ (nat_lit 0)))),(.int (.ofNat (.succ (nat_lit 0))))]))) nil))))) xNil)))
noncomputable def F117:List V→R:=fnA 2 3 (xSeq (xAsg 2 true cD0) (xSeq (xFor [3] 0 (cons (cCall F45 (cons (cCall F51 (cons (cN false 0) nil)) nil)) nil) (xSeq (xAsg 4 false (cCall F116 (cons (cN false 3) (cons (cN false 1) nil)))) (xSeq (xIte (cCmp .Is (cN true 4) (cLit .none)) (xSeq (xRet (cLit .none)) xNil) xNil) (xSeq (xSetI 2 (cSub (cN true 4) (cLit (.int (.ofNat .zero)))) (cCall F38 (cons (cList (cons (cGet2 2 (cSub (cN true 4) (cLit (.int (.ofNat .zero)))) (cLit (.tuple [(.str ⟨⟨[nat_lit 110,nat_lit 117,nat_lit 109]⟩⟩),(.int (.ofNat .zero)),(.int (.ofNat (.succ (nat_lit 0))))]))) (cons (cSub (cN true 4) (cLit (.int (.ofNat (.succ (nat_lit 0)))))) nil))) nil))) xNil)))) (xSeq (xRet (cComp (cTup (cons (cN false 5) (cons (cSub (cN true 2) (cN false 5)) nil))) 0 (cons (cBi .sorted (cons (cN true 2) nil)) nil) (tcons (cCmp .NotEq (cSub (cN true 2) (cN false 5)) (cLit (.tuple [(.str ⟨⟨[nat_lit 110,nat_lit 117,nat_lit 109]⟩⟩),(.int (.ofNat .zero)),(.int (.ofNat (.succ (nat_lit 0))))]))) tnil))) xNil)))
noncomputable def F118:List V→R:=fnA 2 2 (xSeq (xAsg 2 false (cCall F117 (cons (cN false 0) (cons (cN false 1) nil)))) (xSeq (xIte (cOr2 (cCmp .Is (cN true 2) (cLit .none)) (cOr2 (cCmp .Eq (cBi .len (cons (cN true 2) nil)) (cLit (.int (.ofNat .zero)))) (cOr2 (cCmp .NotEq (cSub (cSub (cN true 2) (cNeg (cLit (.int (.ofNat (.succ (nat_lit 0))))))) (cLit (.int (.ofNat .zero)))) (cLit (.int (.ofNat (.succ (nat_lit 0)))))) (cNot (cCall F17 (cons (cSub (cSub (cN true 2) (cNeg (cLit (.int (.ofNat (.succ (nat_lit 0))))))) (cLit (.int (.ofNat (.succ (nat_lit 0)))))) nil)))))) (xSeq (xRet (cLit .none)) xNil) xNil) (xSeq (xAsg 3 false (cIte (cCmp .Eq (cSub (cSub (cN true 2) (cLit (.int (.ofNat .zero)))) (cLit (.int (.ofNat .zero)))) (cLit (.int (.ofNat .zero)))) (cSub (cSub (cN true 2) (cLit (.int (.ofNat .zero)))) (cLit (.int (.ofNat (.succ (nat_lit 0)))))) (cCall F10 (cons (cLit (.int (.ofNat .zero))) (cons (cLit (.int (.ofNat (.succ (nat_lit 0))))) nil))))) (xSeq (xRet (cTup (cons (cSub (cCall F16 (cons (cSub (cSub (cN true 2) (cNeg (cLit (.int (.ofNat (.succ (nat_lit 0))))))) (cLit (.int (.ofNat (.succ (nat_lit 0)))))) nil)) (cLit (.int (.ofNat .zero)))) (cons (cN false 3) nil)))) xNil))))
noncomputable def F119:List V→R:=fnA 1 0 (xSeq (xRet (cCall F82 (cons (cCall F78 (cons (cCall F108 (cons (cSub (cN true 0) (cLit (.int (.ofNat .zero)))) (cons (cLit (.int (.ofNat (.succ (nat_lit 0))))) nil))) (cons (cCall F108 (cons (cSub (cN true 0) (cLit (.int (.ofNat (.succ (nat_lit 0)))))) (cons (cLit (.int (.ofNat (.succ (nat_lit 0))))) nil))) nil))) (cons (cN false 0) nil)))) xNil)
noncomputable def b120(c:Nat→List V→R):List V→R:=fnA 2 4 (xSeq (xAsgL (gnm 2 false (gnm 3 false gnil)) (cons (cSub (cN true 0) (cLit (.int (.ofNat (.succ (nat_lit 0)))))) (cons (cSub (cN true 0) (cLit (.int (.ofNat (.succ (nat_lit 1)))))) nil))) (xSeq (xIte (cCall F17 (cons (cN false 3) nil)) (xSeq (xAsg 4 false (cCall (c 1) (cons (cN false 2) (cons (cN false 1) nil)))) (xSeq (xRet (cIte (cCmp .Is (cN true 4) (cLit .none)) (cLit .none) (cCall F83 (cons (cN false 4) (cons (cSub (cCall F16 (cons (cN false 3) nil)) (cLit (.int (.ofNat .zero)))) nil))))) xNil)) xNil) (xSeq (xAsg 5 false (cCall F118 (cons (cN false 3) (cons (cN false 1) nil)))) (xSeq (xIte (cOr2 (cCmp .Is (cN true 5) (cLit .none)) (cOr2 (cNot (cCall F15 (cons (cN false 2) nil))) (cCmp .Eq (cSub (cCall F16 (cons (cN false 2) nil)) (cLit (.int (.ofNat .zero)))) (cLit (.int (.ofNat .zero)))))) (xSeq (xRet (cLit .none)) xNil) xNil) (xSeq (xRet (cCall F79 (cons (cCall F9 (cons (cCall F16 (cons (cN false 2) nil)) (cons (cSub (cN true 5) (cLit (.int (.ofNat .zero)))) nil))) nil))) xNil)))))
noncomputable def b121(c:Nat→List V→R):List V→R:=fnA 2 4 (xSeq (xIte (cNot (cCall F21 (cons (cN false 0) (cons (cN false 1) nil)))) (xSeq (xRet (cLit (.tuple [(.list [(.tuple [(.int (.ofNat (.succ (nat_lit 0)))),(.int (.ofNat (.succ (nat_lit 0))))])]),(.list [(.tuple [(.int (.ofNat (.succ (nat_lit 0)))),(.int (.ofNat (.succ (nat_lit 0))))])])]))) xNil) xNil) (xSeq (xAsg 2 false (cCall F85 (cons (cN false 0) (cons (cN false 1) nil)))) (xSeq (xIte (cCmp .IsNot (cN true 2) (cLit .none)) (xSeq (xRet (cIte (cCmp .NotEq (cSub (cN true 2) (cLit (.int (.ofNat .zero)))) (cList nil)) (cCall F119 (cons (cN false 2) nil)) (cLit .none))) xNil) xNil) (xSeq (xIte (cCmp .Eq (cSub (cN true 0) (cLit (.int (.ofNat .zero)))) (cLit (.str ⟨⟨[nat_lit 112,nat_lit 111,nat_lit 119]⟩⟩))) (xSeq (xRet (cCall (c 0) (cons (cN false 0) (cons (cN false 1) nil)))) xNil) xNil) (xSeq (xIte (cAnd2 (cCmp .Eq (cSub (cN true 0) (cLit (.int (.ofNat .zero)))) (cLit (.str ⟨⟨[nat_lit 99,nat_lit 97,nat_lit 108,nat_lit 108]⟩⟩))) (cAnd2 (cCmp .Eq (cSub (cN true 0) (cLit (.int (.ofNat (.succ (nat_lit 0)))))) (cLit (.str ⟨⟨[nat_lit 102,nat_lit 97,nat_lit 99,nat_lit 116,nat_lit 111,nat_lit 114,nat_lit 105,nat_lit 97,nat_lit 108]⟩⟩))) (cCmp .Eq (cBi .len (cons (cSub (cN true 0) (cLit (.int (.ofNat (.succ (nat_lit 1)))))) nil)) (cLit (.int (.ofNat (.succ (nat_lit 0)))))))) (xSeq (xRet cStuck) xNil) xNil) (xSeq (xIte (cCmp .NotEq (cSub (cN true 0) (cLit (.int (.ofNat .zero)))) (cLit (.str ⟨⟨[nat_lit 112,nat_lit 114,nat_lit 111,nat_lit 100]⟩⟩))) (xSeq (xRet (cLit .none)) xNil) xNil) (xSeq (xAsg 3 false (cLit (.tuple [(.list [(.tuple [(.int (.ofNat (.succ (nat_lit 0)))),(.int (.ofNat (.succ (nat_lit 0))))])]),(.list [(.tuple [(.int (.ofNat (.succ (nat_lit 0)))),(.int (.ofNat (.succ (nat_lit 0))))])])]))) (xSeq (xFor [4] 0 (cons (cSub (cN true 0) (cLit (.int (.ofNat (.succ (nat_lit 0)))))) nil) (xSeq (xAsg 5 false (cCall (c 1) (cons (cN false 4) (cons (cN false 1) nil)))) (xSeq (xIte (cCmp .Is (cN true 5) (cLit .none)) (xSeq (xRet (cLit .none)) xNil) xNil) (xSeq (xAsg 3 false (cCall F81 (cons (cN false 3) (cons (cN false 5) nil)))) xNil)))) (xSeq (xRet (cN false 3)) xNil)))))))))
noncomputable def cl120(n:Nat):Nat→List V→R:=@Nat.rec (fun _=>Nat→List V→R) (fun _ _=>none) (fun _ c m=>(@Bool.rec (fun _=>List V→R) (b121 c) (b120 c) (Nat.blt m 1))) n
noncomputable def F120:List V→R:=cl120 40 0
noncomputable def F121:List V→R:=cl120 40 1
noncomputable def F122:List V→R:=fnA 2 1 (xSeq (xAsg 2 false (cCall F117 (cons (cN false 0) (cons (cN false 1) nil)))) (xSeq (xIte (cCmp .Is (cN true 2) (cLit .none)) (xSeq (xRet (cLit .none)) xNil) xNil) (xSeq (xRet (cCall F12 (cons cStuck nil))) xNil)))
noncomputable def F123:List V→R:=fnA 2 7 (xSeq (xAsg 2 false (cCall F122 (cons (cN false 0) (cons (cN false 1) nil)))) (xSeq (xIte (cCmp .IsNot (cN true 2) (cLit .none)) (xSeq (xRet (cN false 2)) xNil) xNil) (xSeq (xAsg 3 false (cCall F121 (cons (cN false 0) (cons (cN false 1) nil)))) (xSeq (xAsg 4 false (cIte (cCmp .Is (cN true 3) (cLit .none)) (cLit .none) (cCall F115 (cons (cN false 3) nil)))) (xSeq (xIte (cCmp .Is (cN true 4) (cLit .none)) (xSeq (xRet (cLit .none)) xNil) xNil) (xSeq (xAsgL (gnm 5 false (gnm 6 true gnil)) (cons (cLit (.tuple [(.list [(.tuple [(.int (.ofNat (.succ (nat_lit 0)))),(.int (.ofNat (.succ (nat_lit 0))))])]),(.list [(.tuple [(.int (.ofNat (.succ (nat_lit 0)))),(.int (.ofNat (.succ (nat_lit 0))))])])])) (cons (cList nil) nil))) (xSeq (xFor [7] 0 (cons (cIte (cCmp .Eq (cSub (cN true 0) (cLit (.int (.ofNat .zero)))) (cLit (.str ⟨⟨[nat_lit 112,nat_lit 114,nat_lit 111,nat_lit 100]⟩⟩))) (cSub (cN true 0) (cLit (.int (.ofNat (.succ (nat_lit 0)))))) (cTup (cons (cN false 0) nil))) nil) (xSeq (xAsg 8 false (cCall F85 (cons (cN false 7) (cons (cN false 1) nil)))) (xSeq (xIte (cCmp .Is (cN true 8) (cLit .none)) (xSeq (xApp 6 (cN false 7)) xNil) (xSeq (xAsg 5 false (cCall F81 (cons (cN false 5) (cons (cN false 8) nil)))) xNil)) xNil))) (xSeq (xFrz [6] (xRet (cCall F13 (cons (cBin .Add (cList (cons (cCall F89 (cons (cCall F81 (cons (cN false 4) (cons (cN false 5) nil))) (cons (cN false 1) nil))) nil)) (cN false 6)) nil)))) xNil))))))))
noncomputable def F124:List V→R:=fnA 2 2 (xSeq (xAsg 0 false (cCall F44 (cons (cN false 0) nil))) (xSeq (xAsg 2 false (cCall F123 (cons (cN false 0) (cons (cN false 1) nil)))) (xSeq (xIte (cCmp .IsNot (cN true 2) (cLit .none)) (xSeq (xRet (cCall F44 (cons (cN false 2) nil))) xNil) xNil) (xSeq (xAsg 3 false (cComp (cCall F123 (cons (cN false 4) (cons (cN false 1) nil))) 0 (cons (cCall F45 (cons (cCall F51 (cons (cN false 0) nil)) nil)) nil) tnil)) (xSeq (xRet (cIte (cCmp .In (cLit .none) (cN true 3)) (cLit .none) (cCall F44 (cons (cCall F12 (cons (cN false 3) nil)) nil)))) xNil)))))
noncomputable def b125(c:Nat→List V→R):List V→R:=fnA 2 5 (xSeq (xIte (cCmp .Eq (cSub (cN true 0) (cLit (.int (.ofNat .zero)))) (cLit (.str ⟨⟨[nat_lit 110,nat_lit 117,nat_lit 109]⟩⟩))) (xSeq (xRet (cTup (cons (cSub (cN true 0) (cLit (.int (.ofNat (.succ (nat_lit 0)))))) (cons (cSub (cN true 0) (cLit (.int (.ofNat (.succ (nat_lit 1)))))) nil)))) xNil) xNil) (xSeq (xIte (cCmp .Eq (cSub (cN true 0) (cLit (.int (.ofNat .zero)))) (cLit (.str ⟨⟨[nat_lit 115,nat_lit 121,nat_lit 109]⟩⟩))) (xSeq (xRet (cTup (cons (cN false 1) (cons (cLit (.int (.ofNat (.succ (nat_lit 0))))) nil)))) xNil) xNil) (xSeq (xIte (cCmp .Eq (cSub (cN true 0) (cLit (.int (.ofNat .zero)))) (cLit (.str ⟨⟨[nat_lit 112,nat_lit 111,nat_lit 119]⟩⟩))) (xSeq (xAsgL (gnm 2 false (gnm 3 false gnil)) (cons (cCall (c 0) (cons (cSub (cN true 0) (cLit (.int (.ofNat (.succ (nat_lit 0)))))) (cons (cN false 1) nil))) (cons (cSub (cCall (c 0) (cons (cSub (cN true 0) (cLit (.int (.ofNat (.succ (nat_lit 1)))))) (cons (cN false 1) nil))) (cLit (.int (.ofNat .zero)))) nil))) (xSeq (xRet (cIte (cCmp .GtE (cN true 3) (cLit (.int (.ofNat .zero)))) (cTup (cons (cBin .Pow (cSub (cN true 2) (cLit (.int (.ofNat .zero)))) (cN false 3)) (cons (cBin .Pow (cSub (cN true 2) (cLit (.int (.ofNat (.succ (nat_lit 0)))))) (cN false 3)) nil))) (cTup (cons (cBin .Pow (cSub (cN true 2) (cLit (.int (.ofNat (.succ (nat_lit 0)))))) (cBin .Sub (cLit (.int (.ofNat .zero))) (cN false 3))) (cons (cBin .Pow (cSub (cN true 2) (cLit (.int (.ofNat .zero)))) (cBin .Sub (cLit (.int (.ofNat .zero))) (cN false 3))) nil))))) xNil)) xNil) (xSeq (xAsg 4 false (cIte (cCmp .Eq (cSub (cN true 0) (cLit (.int (.ofNat .zero)))) (cLit (.str ⟨⟨[nat_lit 115,nat_lit 117,nat_lit 109]⟩⟩))) (cTup (cons (cLit (.int (.ofNat .zero))) (cons (cLit (.int (.ofNat (.succ (nat_lit 0))))) nil))) (cTup (cons (cLit (.int (.ofNat (.succ (nat_lit 0))))) (cons (cLit (.int (.ofNat (.succ (nat_lit 0))))) nil))))) (xSeq (xFor [5] 0 (cons (cSub (cN true 0) (cLit (.int (.ofNat (.succ (nat_lit 0)))))) nil) (xSeq (xAsg 6 false (cCall (c 0) (cons (cN false 5) (cons (cN false 1) nil)))) (xSeq (xIte (cCmp .Eq (cSub (cN true 0) (cLit (.int (.ofNat .zero)))) (cLit (.str ⟨⟨[nat_lit 112,nat_lit 114,nat_lit 111,nat_lit 100]⟩⟩))) (xSeq (xAsg 4 false (cTup (cons (cBin .Mult (cSub (cN true 4) (cLit (.int (.ofNat .zero)))) (cSub (cN true 6) (cLit (.int (.ofNat .zero))))) (cons (cBin .Mult (cSub (cN true 4) (cLit (.int (.ofNat (.succ (nat_lit 0)))))) (cSub (cN true 6) (cLit (.int (.ofNat (.succ (nat_lit 0))))))) nil)))) xNil) (xSeq (xAsg 4 false (cTup (cons (cBin .Add (cBin .Mult (cSub (cN true 4) (cLit (.int (.ofNat .zero)))) (cSub (cN true 6) (cLit (.int (.ofNat (.succ (nat_lit 0))))))) (cBin .Mult (cSub (cN true 6) (cLit (.int (.ofNat .zero)))) (cSub (cN true 4) (cLit (.int (.ofNat (.succ (nat_lit 0)))))))) (cons (cBin .Mult (cSub (cN true 4) (cLit (.int (.ofNat (.succ (nat_lit 0)))))) (cSub (cN true 6) (cLit (.int (.ofNat (.succ (nat_lit 0))))))) nil)))) xNil)) xNil))) (xSeq (xRet (cN false 4)) xNil))))))
noncomputable def cl125(n:Nat):Nat→List V→R:=@Nat.rec (fun _=>Nat→List V→R) (fun _ _=>none) (fun _ c m=>b125 c) n
noncomputable def F125:List V→R:=cl125 40 0
noncomputable def lawR:X:=(xSeq (xAsg 6 false (cComp (cTup (cons (cLit (.str ⟨⟨[nat_lit 115,nat_lit 117,nat_lit 109]⟩⟩)) (cons (cTup (cons (cLit (.tuple [ (.str ⟨⟨[nat_lit 115,nat_lit 121,nat_lit 109]⟩⟩),(.str ⟨⟨[nat_lit 110]⟩⟩) ])) (cons (cTup (cons (cLit (.str ⟨⟨[nat_lit 110,nat_lit 117,nat_lit 109]⟩⟩)) (cons (cN false 13) (cons (cLit (.int (.ofNat (.succ (nat_lit 0))))) nil)))) nil))) nil))) 0 (cons (cN true 4) nil) tnil)) (xSeq (xAsg 7 false (cCall F44 (cons (cTup (cons (cLit (.str ⟨⟨[nat_lit 112,nat_lit 114,nat_lit 111,nat_lit 100]⟩⟩)) (cons (cBi .tuple (cons (cBin .Add (cN false 6) (cList (cons (cTup (cons (cLit (.str ⟨⟨[nat_lit 112,nat_lit 111,nat_lit 119]⟩⟩)) (cons (cTup (cons (cLit (.str ⟨⟨[nat_lit 110,nat_lit 117,nat_lit 109]⟩⟩)) (cons (cSub (cN true 3) (cLit (.int (.ofNat .zero)))) (cons (cSub (cN true 3) (cLit (.int (.ofNat (.succ (nat_lit 0)))))) nil)))) (cons (cLit (.tuple [ (.str ⟨⟨[nat_lit 115,nat_lit 121,nat_lit 109]⟩⟩),(.str ⟨⟨[nat_lit 110]⟩⟩) ])) nil)))) nil))) nil)) nil))) nil))) (xSeq (xAsg 8 false (cCall F124 (cons (cN false 7) (cons (cLit (.str ⟨⟨[nat_lit 110]⟩⟩)) nil)))) (xSeq (xIte (cCmp .Is (cN true 8) (cLit .none)) (xSeq (xRet (cLit (.bool false))) xNil) xNil) (xSeq (xFor [9] 2 (cons (cNeg (cLit (.int (.ofNat (.succ (nat_lit 2)))))) (cons (cLit (.int (.ofNat (.succ (nat_lit 3))))) nil)) (xSeq (xAsg 10 true (cIte (cCmp .GtE (cN true 9) (cLit (.int (.ofNat .zero)))) (cList (cons (cBin .Pow (cSub (cN true 3) (cLit (.int (.ofNat .zero)))) (cN false 9)) (cons (cBin .Pow (cSub (cN true 3) (cLit (.int (.ofNat (.succ (nat_lit 0)))))) (cN false 9)) nil))) (cList (cons (cBin .Pow (cSub (cN true 3) (cLit (.int (.ofNat (.succ (nat_lit 0)))))) (cBin .Sub (cLit (.int (.ofNat .zero))) (cN false 9))) (cons (cBin .Pow (cSub (cN true 3) (cLit (.int (.ofNat .zero)))) (cBin .Sub (cLit (.int (.ofNat .zero))) (cN false 9))) nil))))) (xSeq (xFor [5] 0 (cons (cN false 4) nil) (xSeq (xSetI 10 (cLit (.int (.ofNat .zero))) (cBin .Mult (cSub (cN true 10) (cLit (.int (.ofNat .zero)))) (cBin .Add (cN false 9) (cN false 5)))) xNil)) (xSeq (xAsgL (gnm 11 false (gnm 12 false gnil)) (cons (cCall F125 (cons (cN false 8) (cons (cN false 9) nil))) (cons (cCall F125 (cons (cN false 8) (cons (cBin .Add (cN false 9) (cLit (.int (.ofNat (.succ (nat_lit 0)))))) nil))) nil))) (xSeq (xIte (cOr2 (cCmp .Eq (cSub (cN true 11) (cLit (.int (.ofNat (.succ (nat_lit 0)))))) (cLit (.int (.ofNat .zero)))) (cCmp .Eq (cSub (cN true 12) (cLit (.int (.ofNat (.succ (nat_lit 0)))))) (cLit (.int (.ofNat .zero))))) (xSeq (xRet (cLit (.bool false))) xNil) xNil) (xSeq (xIte (cCmp .NotEq (cBin .Mult (cBin .Sub (cBin .Mult (cSub (cN true 12) (cLit (.int (.ofNat .zero)))) (cSub (cN true 11) (cLit (.int (.ofNat (.succ (nat_lit 0))))))) (cBin .Mult (cSub (cN true 11) (cLit (.int (.ofNat .zero)))) (cSub (cN true 12) (cLit (.int (.ofNat (.succ (nat_lit 0)))))))) (cSub (cN true 10) (cLit (.int (.ofNat (.succ (nat_lit 0))))))) (cBin .Mult (cBin .Mult (cSub (cN true 10) (cLit (.int (.ofNat .zero)))) (cSub (cN true 11) (cLit (.int (.ofNat (.succ (nat_lit 0))))))) (cSub (cN true 12) (cLit (.int (.ofNat (.succ (nat_lit 0)))))))) (xSeq (xRet (cLit (.bool false))) xNil) xNil) xNil)))))) (xSeq (xRet (cLit (.bool true))) xNil))))))
noncomputable def lawRO(O:Nat→List V→R):X:=(xSeq (xAsg 6 false (cComp (cTup (cons (cLit (.str ⟨⟨[nat_lit 115,nat_lit 117,nat_lit 109]⟩⟩)) (cons (cTup (cons (cLit (.tuple [ (.str ⟨⟨[nat_lit 115,nat_lit 121,nat_lit 109]⟩⟩),(.str ⟨⟨[nat_lit 110]⟩⟩) ])) (cons (cTup (cons (cLit (.str ⟨⟨[nat_lit 110,nat_lit 117,nat_lit 109]⟩⟩)) (cons (cN false 13) (cons (cLit (.int (.ofNat (.succ (nat_lit 0))))) nil)))) nil))) nil))) 0 (cons (cN true 4) nil) tnil)) (xSeq (xAsg 7 false (cCall (O 44) (cons (cTup (cons (cLit (.str ⟨⟨[nat_lit 112,nat_lit 114,nat_lit 111,nat_lit 100]⟩⟩)) (cons (cBi .tuple (cons (cBin .Add (cN false 6) (cList (cons (cTup (cons (cLit (.str ⟨⟨[nat_lit 112,nat_lit 111,nat_lit 119]⟩⟩)) (cons (cTup (cons (cLit (.str ⟨⟨[nat_lit 110,nat_lit 117,nat_lit 109]⟩⟩)) (cons (cSub (cN true 3) (cLit (.int (.ofNat .zero)))) (cons (cSub (cN true 3) (cLit (.int (.ofNat (.succ (nat_lit 0)))))) nil)))) (cons (cLit (.tuple [ (.str ⟨⟨[nat_lit 115,nat_lit 121,nat_lit 109]⟩⟩),(.str ⟨⟨[nat_lit 110]⟩⟩) ])) nil)))) nil))) nil)) nil))) nil))) (xSeq (xAsg 8 false (cCall (O 124) (cons (cN false 7) (cons (cLit (.str ⟨⟨[nat_lit 110]⟩⟩)) nil)))) (xSeq (xIte (cCmp .Is (cN true 8) (cLit .none)) (xSeq (xRet (cLit (.bool false))) xNil) xNil) (xSeq (xFor [9] 2 (cons (cNeg (cLit (.int (.ofNat (.succ (nat_lit 2)))))) (cons (cLit (.int (.ofNat (.succ (nat_lit 3))))) nil)) (xSeq (xAsg 10 true (cIte (cCmp .GtE (cN true 9) (cLit (.int (.ofNat .zero)))) (cList (cons (cBin .Pow (cSub (cN true 3) (cLit (.int (.ofNat .zero)))) (cN false 9)) (cons (cBin .Pow (cSub (cN true 3) (cLit (.int (.ofNat (.succ (nat_lit 0)))))) (cN false 9)) nil))) (cList (cons (cBin .Pow (cSub (cN true 3) (cLit (.int (.ofNat (.succ (nat_lit 0)))))) (cBin .Sub (cLit (.int (.ofNat .zero))) (cN false 9))) (cons (cBin .Pow (cSub (cN true 3) (cLit (.int (.ofNat .zero)))) (cBin .Sub (cLit (.int (.ofNat .zero))) (cN false 9))) nil))))) (xSeq (xFor [5] 0 (cons (cN false 4) nil) (xSeq (xSetI 10 (cLit (.int (.ofNat .zero))) (cBin .Mult (cSub (cN true 10) (cLit (.int (.ofNat .zero)))) (cBin .Add (cN false 9) (cN false 5)))) xNil)) (xSeq (xAsgL (gnm 11 false (gnm 12 false gnil)) (cons (cCall (O 125) (cons (cN false 8) (cons (cN false 9) nil))) (cons (cCall (O 125) (cons (cN false 8) (cons (cBin .Add (cN false 9) (cLit (.int (.ofNat (.succ (nat_lit 0)))))) nil))) nil))) (xSeq (xIte (cOr2 (cCmp .Eq (cSub (cN true 11) (cLit (.int (.ofNat (.succ (nat_lit 0)))))) (cLit (.int (.ofNat .zero)))) (cCmp .Eq (cSub (cN true 12) (cLit (.int (.ofNat (.succ (nat_lit 0)))))) (cLit (.int (.ofNat .zero))))) (xSeq (xRet (cLit (.bool false))) xNil) xNil) (xSeq (xIte (cCmp .NotEq (cBin .Mult (cBin .Sub (cBin .Mult (cSub (cN true 12) (cLit (.int (.ofNat .zero)))) (cSub (cN true 11) (cLit (.int (.ofNat (.succ (nat_lit 0))))))) (cBin .Mult (cSub (cN true 11) (cLit (.int (.ofNat .zero)))) (cSub (cN true 12) (cLit (.int (.ofNat (.succ (nat_lit 0)))))))) (cSub (cN true 10) (cLit (.int (.ofNat (.succ (nat_lit 0))))))) (cBin .Mult (cBin .Mult (cSub (cN true 10) (cLit (.int (.ofNat .zero)))) (cSub (cN true 11) (cLit (.int (.ofNat (.succ (nat_lit 0))))))) (cSub (cN true 12) (cLit (.int (.ofNat (.succ (nat_lit 0)))))))) (xSeq (xRet (cLit (.bool false))) xNil) xNil) xNil)))))) (xSeq (xRet (cLit (.bool true))) xNil))))))
noncomputable def isT(o:Option V):Bool:=match o with | some (.bool b)=>b | _=>false
noncomputable def rho(m b sh:V):Rho:=[.un,.un,.va m,.va b,.va sh,.un,.un,.un,.un,.un,.un,.un,.un]
noncomputable def lawV(m b sh:V):Option V:=lawR (fun _=>none) (fun _=>some .none) (rho m b sh)
end Mine
end
noncomputable section
open PySem PySem.W PySem.W.X PyProof.Rows
namespace MineH
open BT renaming node→JJ,nil→ZZ
noncomputable def ev:Env:={ scope:=pw.main.scope,locals:=mainNs,globals:=mainNs,cells:=[],code:=Value.ref 13,frame:=some 14 }
noncomputable def cE:Code:=.body bd ev
noncomputable def tf:List Frame:=[topFrame { line:=0,col:=0,endLine:=0,endCol:=0 }]
noncomputable def an:Option Value:=some (Value.ref 6)
noncomputable def m0:Nat:=11
noncomputable def b0(P:Params):Obj:=boot_o_0 P
noncomputable def b1(P:Params):Obj:=boot_o_1 P
noncomputable def b2(P:Params):Obj:=boot_o_2 P
noncomputable def M0(P:Params):List DictEntry:=[de P "__doc__" 166 (.none),de P "__package__" 167 (.none),de P "__loader__" 168 (.builtin "__main__.__loader__#opaque"),de P "__spec__" 169 (.none),de P "__annotations__" 170 (.ref 6),de P "__builtins__" 171 (.ref 4),de P "__file__" 173 (vs "/claim/cut.py" 172),de P "__cached__" 174 (.none)]
noncomputable def G0(P:Params):Obj:=oD (de P "__name__" 165 (vs "__main__" 164)::M0 P) 9
noncomputable def b4(P:Params):Obj:=boot_o_4 P
noncomputable def b5(P:Params):Obj:=boot_o_5 P
noncomputable def b6(P:Params):Obj:=boot_o_6 P
noncomputable def b7(P:Params):Obj:=boot_o_7 P
noncomputable def b8(P:Params):Obj:=boot_o_8 P
noncomputable def b9(P:Params):Obj:=boot_o_9 P
noncomputable def b10(P:Params):Obj:=boot_o_10 P
noncomputable def L0:List Value:=[]
noncomputable def C0:Obj:=oF L0
noncomputable def b13:Obj:=oC [vs "<module>" 182,vs "<module>" 183,vs "/claim/cut.py" 184,.int 1 0,.int 0 0,.int 0 0,.int 0 0,.int 0 0,.ref 11,.bool false,.int 181 0,.ref 12,.none,.none,.none,.none,.int 185 0,.int 1 0,vs "/claim/cut.py" 186]
noncomputable def b14:Obj:={ cls:=Value.type "frame",slots:=#[some (Value.ref 13),some (Value.ref 3),some (Value.ref 3),none,some (Value.str (Str.ofString "__main__") 164),none,some (Value.ref 0)] }
noncomputable def T0(P:Params):BT:=JJ (b0 P) (JJ (b1 P) (JJ (G0 P) (YY (b7 P)) (YY eT)) (JJ (b5 P) (YY (b9 P)) (YY b13))) (JJ (b2 P) (JJ (b4 P) (YY (b8 P)) (YY C0)) (JJ (b6 P) (YY (b10 P)) (YY b14)))
noncomputable def lf:Life:={ }
noncomputable def S0(w:World)(os:OsState):SharedT:=⟨T0 w.params,15,lf,#[],{ },187,os⟩
noncomputable def q0:Pos:={ line:=0,col:=0,endLine:=0,endCol:=0 }
noncomputable def qp:Pos:={ line:=0,col:=0,endLine:=0,endCol:=0 }
noncomputable def c1_2(P:Params):Obj:=oS [de P "type.__subclasses__.Exception.0" 216 (.int 31 0),de P "type.__subclasses__.Exception.n" 217 (.int 1 0)] 2
noncomputable def M1(P:Params):List DictEntry:=catE (M0 P) [de P "CasFail" 219 (.ref 31),de P "gcd" 229 (.ref 41),de P "bits_of" 239 (.ref 48),de P "gcd_all" 248 (.ref 55),de P "least_divisor" 257 (.ref 62),de P "prime_factors" 267 (.ref 69),de P "R0" 272 (.ref 70),de P "R1" 275 (.ref 71),de P "MOST_BITS" 277 (.int 200000 276),de P "rat" 286 (.ref 78),de P "radd" 294 (.ref 85),de P "rsub" 302 (.ref 92),de P "rmul" 310 (.ref 99),de P "rdiv" 318 (.ref 106),de P "rneg" 325 (.ref 113),de P "rinv" 332 (.ref 120),de P "rpower" 341 (.ref 127),de P "rfloor" 348 (.ref 134),de P "ris_whole" 355 (.ref 141),de P "T_ZERO" 361 (.ref 142),de P "T_ONE" 365 (.ref 143),de P "T_MINUS" 370 (.ref 144)]
noncomputable def G1(P:Params):Obj:=oD (de P "__name__" 165 (vs "cas.terms" 356)::M1 P) 31
noncomputable def L1:List Value:=catV L0 [.int 2 0,.int 0 0,.ref 20,.int 9 0,.int 0 0,.ref 40,.int 14 0,.int 0 0,.ref 47,.int 21 0,.int 0 0,.ref 54,.int 26 0,.int 0 0,.ref 61,.int 33 0,.int 0 0,.ref 68,.int 46 0,.int 0 0,.ref 77,.int 51 0,.int 0 0,.ref 84,.int 53 0,.int 0 0,.ref 91,.int 55 0,.int 0 0,.ref 98,.int 57 0,.int 0 0,.ref 105,.int 59 0,.int 0 0,.ref 112,.int 61 0,.int 0 0,.ref 119,.int 63 0,.int 0 0,.ref 126,.int 70 0,.int 0 0,.ref 133,.int 72 0,.int 0 0,.ref 140]
noncomputable def C1:Obj:=oF L1
noncomputable def o15:=oT [.type "Exception"]
noncomputable def o16:Obj:={ cls:=Value.type "builtin_function_or_method",data:=Data.fields #[Value.builtin "type.__prepare__",Value.type "type"] }
noncomputable def o17(P:Params):Obj:=oD [de P "__module__" 196 (vs "cas.errors" 187),de P "__qualname__" 198 (vs "CasFail" 197),de P "__firstlineno__" 200 (.int 2 199),de P "__init__" 209 (.ref 28),de P "__static_attributes__" 212 (.ref 29)] 5
noncomputable def o19:=oF [.int 4 0,.int 4 0,.ref 27]
noncomputable def o20:Obj:=oC [vs "CasFail" 191,vs "CasFail" 192,vs "/claim/cut.py" 193,.int 2 0,.int 0 0,.int 0 0,.int 0 0,.int 0 0,.ref 18,.bool false,.int 181 0,.ref 19,.none,.none,.none,.none,.int 194 0,.int 2 0,vs "/claim/cut.py" 195]
noncomputable def o21:Obj:={ cls:=Value.type "frame",slots:=#[some (Value.ref 20),some (Value.ref 3),some (Value.ref 17),none,some (Value.str (Str.ofString "cas.errors") 187),none,some (Value.ref 0)] }
noncomputable def o24:=oT (nv 204 ["self","kind","text"])
noncomputable def o26:=oFn (st2 1) "CasFail.__init__" (.none) 0 (.none) (.none)
noncomputable def o27:Obj:=oC [vs "__init__" 201,vs "CasFail.__init__" 202,vs "/claim/cut.py" 203,.int 4 0,.int 3 0,.int 0 0,.int 0 0,.int 3 0,.ref 22,.bool true,.int 181 0,.ref 23,.none,.ref 24,.ref 25,.ref 26,.int 207 0,.int 4 0,vs "/claim/cut.py" 208]
noncomputable def o28:=oFn (st2 1) "CasFail.__init__" (.type "function") 3 (vs "cas.errors" 187) (.ref 27)
noncomputable def o29:=oT (nv 210 ["kind","text"])
noncomputable def o30(P:Params):Obj:=oD [de P "__module__" 196 (vs "cas.errors" 187),de P "__firstlineno__" 200 (.int 2 199),de P "__init__" 209 (.ref 28),de P "__static_attributes__" 212 (.ref 29),de P "__weakref__" 214 (.ref 32),de P "__doc__" 215 (.none)] 3
noncomputable def o31:Obj:={ cls:=Value.type "type",data:=Data.cls       { name:=Str.ofString "CasFail",bases:=[Value.type "Exception"],mro:=[Value.ref 31,Value.type "Exception",Value.type "BaseException",Value.type "object"],ns:=30,qualname:=Str.ofString "CasFail" },slots:=#[some (Value.ref 15),none,some (Value.str (Str.ofString "CasFail") 189),some (Value.str (Str.ofString "CasFail") 197),some (Value.builtin "Exception.__new__"),some (Value.bool true)] }
noncomputable def o32:Obj:={ cls:=Value.type "getset_descriptor",data:=Data.fields       #[Value.str (Str.ofString "__weakref__") 213,Value.ref 31,Value.builtin "ExceptionGroup.__weakref__",Value.none] }
noncomputable def o33:Obj:={ cls:=Value.type "super",data:=Data.fields #[Value.ref 31,Value.ref 31,Value.ref 31] }
noncomputable def o34:Obj:={ cls:=Value.type "builtin_function_or_method",data:=Data.fields #[Value.builtin "object.__init_subclass__",Value.ref 31] }
noncomputable def o37:=oT (nv 225 ["a","b"])
noncomputable def o39:=oD0 3 "gcd"
noncomputable def o40:=oK "gcd" 222 9 2 3 35 36 .none (.ref 37) (.ref 38) 39 227
noncomputable def o41:=oF1 3 "gcd" "cas.ints" 220 40
noncomputable def o44:=oT (nv 233 ["n","found","many","step"])
noncomputable def o46:=oD0 4 "bits_of"
noncomputable def o47:=oK "bits_of" 230 14 1 3 42 43 .none (.ref 44) (.ref 45) 46 237
noncomputable def o48:=oF1 4 "bits_of" "cas.ints" 220 47
noncomputable def o51:=oT (nv 243 ["numbers","found","number"])
noncomputable def o53:=oD0 5 "gcd_all"
noncomputable def o54:=oK "gcd_all" 240 21 1 3 49 50 .none (.ref 51) (.ref 52) 53 246
noncomputable def o55:=oF1 5 "gcd_all" "cas.ints" 220 54
noncomputable def o58:=oT (nv 252 ["n","begin","found"])
noncomputable def o60:=oD0 6 "least_divisor"
noncomputable def o61:=oK "least_divisor" 249 26 2 3 56 57 .none (.ref 58) (.ref 59) 60 255
noncomputable def o62:=oF1 6 "least_divisor" "cas.ints" 220 61
noncomputable def o65:=oT (nv 261 ["n","found","prime","many"])
noncomputable def o67:=oD0 7 "prime_factors"
noncomputable def o68:=oK "prime_factors" 258 33 1 3 63 64 .none (.ref 65) (.ref 66) 67 265
noncomputable def o69:=oF1 7 "prime_factors" "cas.ints" 220 68
noncomputable def o70:=oT [.int 0 270,.int 1 271]
noncomputable def o71:=oT [.int 1 273,.int 1 274]
noncomputable def o74:=oT (nv 281 ["top","bottom","g"])
noncomputable def o76:=oD0 12 "rat"
noncomputable def o77:=oK "rat" 278 46 2 3 72 73 .none (.ref 74) (.ref 75) 76 284
noncomputable def o78:=oF1 12 "rat" "cas.rats" 268 77
noncomputable def o81:=oT (nv 290 ["a","b"])
noncomputable def o83:=oD0 13 "radd"
noncomputable def o84:=oK "radd" 287 51 2 3 79 80 .none (.ref 81) (.ref 82) 83 292
noncomputable def o85:=oF1 13 "radd" "cas.rats" 268 84
noncomputable def o88:=oT (nv 298 ["a","b"])
noncomputable def o90:=oD0 14 "rsub"
noncomputable def o91:=oK "rsub" 295 53 2 3 86 87 .none (.ref 88) (.ref 89) 90 300
noncomputable def o92:=oF1 14 "rsub" "cas.rats" 268 91
noncomputable def o95:=oT (nv 306 ["a","b"])
noncomputable def o97:=oD0 15 "rmul"
noncomputable def o98:=oK "rmul" 303 55 2 3 93 94 .none (.ref 95) (.ref 96) 97 308
noncomputable def o99:=oF1 15 "rmul" "cas.rats" 268 98
noncomputable def o102:=oT (nv 314 ["a","b"])
noncomputable def o104:=oD0 16 "rdiv"
noncomputable def o105:=oK "rdiv" 311 57 2 3 100 101 .none (.ref 102) (.ref 103) 104 316
noncomputable def o106:=oF1 16 "rdiv" "cas.rats" 268 105
noncomputable def o109:=oT (nv 322 ["a"])
noncomputable def o111:=oD0 17 "rneg"
noncomputable def o112:=oK "rneg" 319 59 1 3 107 108 .none (.ref 109) (.ref 110) 111 323
noncomputable def o113:=oF1 17 "rneg" "cas.rats" 268 112
noncomputable def o116:=oT (nv 329 ["a"])
noncomputable def o118:=oD0 18 "rinv"
noncomputable def o119:=oK "rinv" 326 61 1 3 114 115 .none (.ref 116) (.ref 117) 118 330
noncomputable def o120:=oF1 18 "rinv" "cas.rats" 268 119
noncomputable def o123:=oT (nv 336 ["a","n","greatest"])
noncomputable def o125:=oD0 19 "rpower"
noncomputable def o126:=oK "rpower" 333 63 2 3 121 122 .none (.ref 123) (.ref 124) 125 339
noncomputable def o127:=oF1 19 "rpower" "cas.rats" 268 126
noncomputable def o130:=oT (nv 345 ["a"])
noncomputable def o132:=oD0 20 "rfloor"
noncomputable def o133:=oK "rfloor" 342 70 1 3 128 129 .none (.ref 130) (.ref 131) 132 346
noncomputable def o134:=oF1 20 "rfloor" "cas.rats" 268 133
noncomputable def o137:=oT (nv 352 ["a"])
noncomputable def o139:=oD0 21 "ris_whole"
noncomputable def o140:=oK "ris_whole" 349 72 1 3 135 136 .none (.ref 137) (.ref 138) 139 353
noncomputable def o141:=oF1 21 "ris_whole" "cas.rats" 268 140
noncomputable def o142:=oT [vs "num" 358,.int 0 359,.int 1 360]
noncomputable def o143:=oT [vs "num" 362,.int 1 363,.int 1 364]
noncomputable def o144:=oT [vs "num" 366,.int (-1) 368,.int 1 369]
noncomputable def T1(P:Params):BT:=JJ (b0 P) (JJ (b1 P) (JJ (G1 P) (JJ (b7 P) (JJ o15 (JJ o31 (JJ eT (YY o127) ZZ) (YY o95)) (JJ o47 (JJ eT (YY o143) ZZ) (YY o111))) (JJ eF (JJ o39 (JJ o71 (YY eT) ZZ) (YY eT)) (JJ o55 (YY eF) (YY o119)))) (JJ eT (JJ o19 (JJ eT (JJ o67 (YY eT) ZZ) (YY o99)) (JJ o51 (YY o83) (YY eF))) (JJ o27 (JJ eF (JJ eT (YY o139) ZZ) (YY eT)) (JJ eT (YY o91) (YY o123))))) (JJ (b5 P) (JJ (b9 P) (JJ (o17 P) (JJ o33 (JJ o65 (YY eF) ZZ) (YY o97)) (JJ eT (YY o81) (YY o113))) (JJ eT (JJ o41 (JJ eF (YY o137) ZZ) (YY o105)) (JJ eF (YY eT) (YY eT)))) (JJ b13 (JJ o21 (JJ o37 (JJ o69 (YY o133) ZZ) (YY eF)) (JJ o53 (YY o85) (YY eT))) (JJ o29 (JJ eT (JJ o77 (YY o141) ZZ) (YY o109)) (JJ o61 (YY eT) (YY o125)))))) (JJ (c1_2 P) (JJ (b4 P) (JJ (b8 P) (JJ o16 (JJ o32 (JJ eF (YY eT) ZZ) (YY eT)) (JJ o48 (JJ eF (YY o144) ZZ) (YY o112))) (JJ o24 (JJ o40 (JJ eT (YY eF) ZZ) (YY o104)) (JJ eT (YY o88) (YY o120)))) (JJ C1 (JJ o20 (JJ eF (JJ o68 (YY o132) ZZ) (YY eT)) (JJ eT (YY o84) (YY o116))) (JJ o28 (JJ o44 (JJ o76 (YY o140) ZZ) (YY eF)) (JJ o60 (YY o92) (YY eT))))) (JJ (b6 P) (JJ (b10 P) (JJ eT (JJ o34 (JJ eT (YY o130) ZZ) (YY o98)) (JJ eF (YY eT) (YY eT))) (JJ o26 (JJ eT (JJ o74 (YY eT) ZZ) (YY o106)) (JJ o58 (YY o90) (YY eF)))) (JJ b14 (JJ eT (JJ eT (JJ o70 (YY o134) ZZ) (YY o102)) (JJ o54 (YY eT) (YY o118))) (JJ (o30 P) (JJ o46 (JJ o78 (YY o142) ZZ) (YY eT)) (JJ o62 (YY eF) (YY o126))))))
noncomputable def S1(w:World)(os:OsState):SharedT:=⟨T1 w.params,145,lf,#[],{ },371,os⟩
noncomputable def q1:Pos:={ line:=77,col:=0,endLine:=77,endCol:=7 }
noncomputable def Z1:List Stmt:=(bd.drop 0).take 26
theorem run1(w:World)(os:OsState):segRunT treeTable pw w m0 an 1 798 (S0 w os) (piecesOf Z1 ev cE q0 tf)=some (.next,S1 w os,cE,q1):=by(rw[PySem.W.Fast.te10110043849684766642,PySem.W.Fast.te14364793385576792824];kernel_rfl)
noncomputable def M2(P:Params):List DictEntry:=catE (M1 P) [de P "t_num" 379 (.ref 151),de P "t_sym" 386 (.ref 158),de P "t_sum" 393 (.ref 165),de P "t_prod" 400 (.ref 172),de P "t_pow" 408 (.ref 179),de P "is_num" 415 (.ref 186),de P "num_of" 422 (.ref 193),de P "is_whole_num" 429 (.ref 200),de P "inner_terms" 437 (.ref 207),de P "all_terms" 447 (.ref 214),de P "free_letters" 453 (.ref 219),de P "contains_letter" 461 (.ref 226),de P "RANKS" 488 (.ref 227),de P "sign_between" 496 (.ref 234),de P "compare_values" 504 (.ref 241),de P "bare_factors" 510 (.ref 246),de P "front_value" 517 (.ref 253),de P "base_and_exponent" 524 (.ref 260),de P "compare_rows" 534 (.ref 267),de P "compare_exponents" 542 (.ref 274),de P "compare_bases" 552 (.ref 281),de P "compare_factors" 565 (.ref 288),de P "compare_terms" 577 (.ref 295)]
noncomputable def G2(P:Params):Obj:=oD (de P "__name__" 165 (vs "cas.termorder" 462)::M2 P) 54
noncomputable def L2:List Value:=catV L1 [.int 78 0,.int 0 0,.ref 150,.int 81 0,.int 0 0,.ref 157,.int 83 0,.int 0 0,.ref 164,.int 87 0,.int 0 0,.ref 171,.int 91 0,.int 0 0,.ref 178,.int 93 0,.int 0 0,.ref 185,.int 95 0,.int 0 0,.ref 192,.int 97 0,.int 0 0,.ref 199,.int 99 0,.int 0 0,.ref 206,.int 106 0,.int 0 0,.ref 213,.int 113 0,.int 0 0,.ref 218,.int 115 0,.int 0 0,.ref 225,.int 119 0,.int 0 0,.ref 233,.int 123 0,.int 0 0,.ref 240,.int 125 0,.int 0 0,.ref 245,.int 129 0,.int 0 0,.ref 252,.int 133 0,.int 0 0,.ref 259,.int 135 0,.int 0 0,.ref 266,.int 141 0,.int 0 0,.ref 273,.int 147 0,.int 0 0,.ref 280,.int 162 0,.int 0 0,.ref 287,.int 167 0,.int 0 0,.ref 294]
noncomputable def C2:Obj:=oF L2
noncomputable def o147:=oT (nv 374 ["top","bottom","told"])
noncomputable def o149:=oD0 26 "t_num"
noncomputable def o150:=oK "t_num" 371 78 2 3 145 146 .none (.ref 147) (.ref 148) 149 377
noncomputable def o151:=oF1 26 "t_num" "cas.terms" 356 150
noncomputable def o154:=oT (nv 383 ["name"])
noncomputable def o156:=oD0 27 "t_sym"
noncomputable def o157:=oK "t_sym" 380 81 1 3 152 153 .none (.ref 154) (.ref 155) 156 384
noncomputable def o158:=oF1 27 "t_sym" "cas.terms" 356 157
noncomputable def o161:=oT (nv 390 ["some_terms"])
noncomputable def o163:=oD0 28 "t_sum"
noncomputable def o164:=oK "t_sum" 387 83 1 3 159 160 .none (.ref 161) (.ref 162) 163 391
noncomputable def o165:=oF1 28 "t_sum" "cas.terms" 356 164
noncomputable def o168:=oT (nv 397 ["some_terms"])
noncomputable def o170:=oD0 29 "t_prod"
noncomputable def o171:=oK "t_prod" 394 87 1 3 166 167 .none (.ref 168) (.ref 169) 170 398
noncomputable def o172:=oF1 29 "t_prod" "cas.terms" 356 171
noncomputable def o175:=oT (nv 404 ["base","exponent"])
noncomputable def o177:=oD0 30 "t_pow"
noncomputable def o178:=oK "t_pow" 401 91 2 3 173 174 .none (.ref 175) (.ref 176) 177 406
noncomputable def o179:=oF1 30 "t_pow" "cas.terms" 356 178
noncomputable def o182:=oT (nv 412 ["term"])
noncomputable def o184:=oD0 31 "is_num"
noncomputable def o185:=oK "is_num" 409 93 1 3 180 181 .none (.ref 182) (.ref 183) 184 413
noncomputable def o186:=oF1 31 "is_num" "cas.terms" 356 185
noncomputable def o189:=oT (nv 419 ["term"])
noncomputable def o191:=oD0 32 "num_of"
noncomputable def o192:=oK "num_of" 416 95 1 3 187 188 .none (.ref 189) (.ref 190) 191 420
noncomputable def o193:=oF1 32 "num_of" "cas.terms" 356 192
noncomputable def o196:=oT (nv 426 ["term"])
noncomputable def o198:=oD0 33 "is_whole_num"
noncomputable def o199:=oK "is_whole_num" 423 97 1 3 194 195 .none (.ref 196) (.ref 197) 198 427
noncomputable def o200:=oF1 33 "is_whole_num" "cas.terms" 356 199
noncomputable def o203:=oT (nv 433 ["term","kind"])
noncomputable def o205:=oD0 34 "inner_terms"
noncomputable def o206:=oK "inner_terms" 430 99 1 3 201 202 .none (.ref 203) (.ref 204) 205 435
noncomputable def o207:=oF1 34 "inner_terms" "cas.terms" 356 206
noncomputable def o210:=oT (nv 441 ["term","waiting","found","here"])
noncomputable def o212:=oD0 35 "all_terms"
noncomputable def o213:=oK "all_terms" 438 106 1 3 208 209 .none (.ref 210) (.ref 211) 212 445
noncomputable def o214:=oF1 35 "all_terms" "cas.terms" 356 213
noncomputable def o217:=oD0 36 "free_letters"
noncomputable def o218:=oK "free_letters" 448 113 1 3 215 216 .none .none .none 217 451
noncomputable def o219:=oF1 36 "free_letters" "cas.terms" 356 218
noncomputable def o222:=oT (nv 457 ["term","name"])
noncomputable def o224:=oD0 37 "contains_letter"
noncomputable def o225:=oK "contains_letter" 454 115 2 3 220 221 .none (.ref 222) (.ref 223) 224 459
noncomputable def o226:=oF1 37 "contains_letter" "cas.terms" 356 225
noncomputable def o227(P:Params):Obj:=oD [de P "sym" 464 (.int 0 465),de P "call" 466 (.int 1 467),de P "sum" 468 (.int 2 469),de P "prod" 470 (.int 3 471),de P "num" 472 (.int 4 473),de P "pow" 474 (.int 5 475),de P "eq" 476 (.int 6 477),de P "list" 478 (.int 7 479)] 8
noncomputable def o230:=oT (nv 492 ["one","other"])
noncomputable def o232:=oD0 40 "sign_between"
noncomputable def o233:=oK "sign_between" 489 119 2 3 228 229 .none (.ref 230) (.ref 231) 232 494
noncomputable def o234:=oF1 40 "sign_between" "cas.termorder" 462 233
noncomputable def o237:=oT (nv 500 ["one","other"])
noncomputable def o239:=oD0 41 "compare_values"
noncomputable def o240:=oK "compare_values" 497 123 2 3 235 236 .none (.ref 237) (.ref 238) 239 502
noncomputable def o241:=oF1 41 "compare_values" "cas.termorder" 462 240
noncomputable def o244:=oD0 42 "bare_factors"
noncomputable def o245:=oK "bare_factors" 505 125 1 3 242 243 .none .none .none 244 508
noncomputable def o246:=oF1 42 "bare_factors" "cas.termorder" 462 245
noncomputable def o249:=oT (nv 514 ["term"])
noncomputable def o251:=oD0 43 "front_value"
noncomputable def o252:=oK "front_value" 511 129 1 3 247 248 .none (.ref 249) (.ref 250) 251 515
noncomputable def o253:=oF1 43 "front_value" "cas.termorder" 462 252
noncomputable def o256:=oT (nv 521 ["term"])
noncomputable def o258:=oD0 44 "base_and_exponent"
noncomputable def o259:=oK "base_and_exponent" 518 133 1 3 254 255 .none (.ref 256) (.ref 257) 258 522
noncomputable def o260:=oF1 44 "base_and_exponent" "cas.termorder" 462 259
noncomputable def o263:=oT (nv 528 ["ones","others","at","found"])
noncomputable def o265:=oD0 45 "compare_rows"
noncomputable def o266:=oK "compare_rows" 525 135 2 3 261 262 .none (.ref 263) (.ref 264) 265 532
noncomputable def o267:=oF1 45 "compare_rows" "cas.termorder" 462 266
noncomputable def o270:=oT (nv 538 ["one","other"])
noncomputable def o272:=oD0 46 "compare_exponents"
noncomputable def o273:=oK "compare_exponents" 535 141 2 3 268 269 .none (.ref 270) (.ref 271) 272 540
noncomputable def o274:=oF1 46 "compare_exponents" "cas.termorder" 462 273
noncomputable def o277:=oT (nv 546 ["one","other","found","kind"])
noncomputable def o279:=oD0 47 "compare_bases"
noncomputable def o280:=oK "compare_bases" 543 147 2 3 275 276 .none (.ref 277) (.ref 278) 279 550
noncomputable def o281:=oF1 47 "compare_bases" "cas.termorder" 462 280
noncomputable def o284:=oT (nv 556 ["one","other","base","exponent","other_base","other_exponent","found"])
noncomputable def o286:=oD0 48 "compare_factors"
noncomputable def o287:=oK "compare_factors" 553 162 2 3 282 283 .none (.ref 284) (.ref 285) 286 563
noncomputable def o288:=oF1 48 "compare_factors" "cas.termorder" 462 287
noncomputable def o291:=oT (nv 569 ["one","other","ones","others","at","found"])
noncomputable def o293:=oD0 49 "compare_terms"
noncomputable def o294:=oK "compare_terms" 566 167 2 3 289 290 .none (.ref 291) (.ref 292) 293 575
noncomputable def o295:=oF1 49 "compare_terms" "cas.termorder" 462 294
noncomputable def T2(P:Params):BT:=JJ (b0 P) (JJ (b1 P) (JJ (G2 P) (JJ (b7 P) (JJ o15 (JJ o31 (JJ eT (JJ o127 (YY eF) ZZ) (YY o191)) (JJ o95 (JJ eT (YY o287) ZZ) (YY eT))) (JJ o47 (JJ eT (JJ o143 (YY eT) ZZ) (YY o207)) (JJ o111 (YY o175) (YY o239)))) (JJ eF (JJ o39 (JJ o71 (JJ eT (YY o263) ZZ) (YY o199)) (JJ eT (JJ eF (YY o295) ZZ) (YY eT))) (JJ o55 (JJ eF (JJ o151 (YY o279) ZZ) (YY eT)) (JJ o119 (YY eT) (YY eT))))) (JJ eT (JJ o19 (JJ eT (JJ o67 (JJ eT (YY o259) ZZ) (YY eF)) (JJ o99 (JJ o163 (YY o291) ZZ) (YY (o227 P)))) (JJ o51 (JJ o83 (JJ o147 (YY eT) ZZ) (YY eT)) (JJ eF (YY o179) (YY eF)))) (JJ o27 (JJ eF (JJ eT (JJ o139 (YY o267) ZZ) (YY o203)) (JJ eT (YY o171) (YY eT))) (JJ eT (JJ o91 (JJ eT (YY eF) ZZ) (YY o219)) (JJ o123 (YY eT) (YY o251)))))) (JJ (b5 P) (JJ (b9 P) (JJ (o17 P) (JJ o33 (JJ o65 (JJ eF (YY eT) ZZ) (YY o193)) (JJ o97 (JJ o161 (YY eT) ZZ) (YY o225))) (JJ eT (JJ o81 (JJ eT (YY o273) ZZ) (YY eF)) (JJ o113 (YY o177) (YY o241)))) (JJ eT (JJ o41 (JJ eF (JJ o137 (YY o265) ZZ) (YY eT)) (JJ o105 (YY eT) (YY o233))) (JJ eF (JJ eT (JJ eF (YY o281) ZZ) (YY o217)) (JJ eT (YY o185) (YY o249))))) (JJ b13 (JJ o21 (JJ o37 (JJ o69 (JJ o133 (YY eT) ZZ) (YY eT)) (JJ eF (JJ o165 (YY o293) ZZ) (YY eF))) (JJ o53 (JJ o85 (JJ o149 (YY o277) ZZ) (YY o213)) (JJ eT (YY eF) (YY o245)))) (JJ o29 (JJ eT (JJ o77 (JJ o141 (YY eF) ZZ) (YY o205)) (JJ o109 (YY eT) (YY o237))) (JJ o61 (JJ eT (JJ o157 (YY eT) ZZ) (YY eF)) (JJ o125 (YY o189) (YY o253))))))) (JJ (c1_2 P) (JJ (b4 P) (JJ (b8 P) (JJ o16 (JJ o32 (JJ eF (JJ eT (YY o256) ZZ) (YY o192)) (JJ eT (JJ eF (YY o288) ZZ) (YY o224))) (JJ o48 (JJ eF (JJ o144 (YY o272) ZZ) (YY eT)) (JJ o112 (YY eT) (YY o240)))) (JJ o24 (JJ o40 (JJ eT (JJ eF (YY eT) ZZ) (YY o200)) (JJ o104 (YY o168) (YY o232))) (JJ eT (JJ o88 (JJ eT (YY o280) ZZ) (YY eF)) (JJ o120 (YY o184) (YY eF))))) (JJ C2 (JJ o20 (JJ eF (JJ o68 (JJ o132 (YY o260) ZZ) (YY o196)) (JJ eT (JJ o164 (YY eT) ZZ) (YY eT))) (JJ eT (JJ o84 (JJ eT (YY eF) ZZ) (YY o212)) (JJ o116 (YY eT) (YY o244)))) (JJ o28 (JJ o44 (JJ o76 (JJ o140 (YY eT) ZZ) (YY eT)) (JJ eF (YY o172) (YY eF))) (JJ o60 (JJ o92 (JJ o156 (YY o284) ZZ) (YY eT)) (JJ eT (YY eF) (YY o252)))))) (JJ (b6 P) (JJ (b10 P) (JJ eT (JJ o34 (JJ eT (JJ o130 (YY o258) ZZ) (YY eT)) (JJ o98 (JJ eT (YY eF) ZZ) (YY o226))) (JJ eF (JJ eT (JJ eF (YY o274) ZZ) (YY o210)) (JJ eT (YY o178) (YY eT)))) (JJ o26 (JJ eT (JJ o74 (JJ eT (YY o266) ZZ) (YY eF)) (JJ o106 (YY o170) (YY o234))) (JJ o58 (JJ o90 (JJ o154 (YY eT) ZZ) (YY o218)) (JJ eF (YY o186) (YY eT))))) (JJ b14 (JJ eT (JJ eT (JJ o70 (JJ o134 (YY eF) ZZ) (YY o198)) (JJ o102 (JJ eT (YY o294) ZZ) (YY o230))) (JJ o54 (JJ eT (JJ o150 (YY eT) ZZ) (YY o214)) (JJ o118 (YY o182) (YY o246)))) (JJ (o30 P) (JJ o46 (JJ o78 (JJ o142 (YY o270) ZZ) (YY o206)) (JJ eT (YY eF) (YY eT))) (JJ o62 (JJ eF (JJ o158 (YY o286) ZZ) (YY o222)) (JJ o126 (YY eT) (YY eT)))))))
noncomputable def S2(w:World)(os:OsState):SharedT:=⟨T2 w.params,296,lf,#[],{ },578,os⟩
noncomputable def q2:Pos:={ line:=167,col:=0,endLine:=178,endCol:=88 }
noncomputable def Z2:List Stmt:=(bd.drop 26).take 24
theorem run2(w:World):∀ os:OsState,segRunT treeTable pw w m0 an 1 800 (S1 w os) (piecesOf Z2 ev cE q1 tf)=some (.next,S2 w os,cE,q2):=byRow2 "special-get-raises" (P:=fun w=>∀ os,segRunT treeTable pw w m0 an 1 800 (S1 w os) (piecesOf Z2 ev cE q1 tf)=some (.next,S2 w os,cE,q2)) (fun w os=>by(rw[PySem.W.Fast.te10110043849684766642,PySem.W.Fast.te14364793385576792824];kernel_rfl)) (fun w os=>by(rw[PySem.W.Fast.te10110043849684766642,PySem.W.Fast.te14364793385576792824];kernel_rfl)) w
noncomputable def M3(P:Params):List DictEntry:=catE (M2 P) [de P "merged_terms" 589 (.ref 302),de P "sort_terms" 597 (.ref 309),de P "ZERO" 603 (.ref 310),de P "ONE" 607 (.ref 311),de P "MINUS_ONE" 612 (.ref 312),de P "HALF" 616 (.ref 313),de P "EXP_ONE" 619 (.ref 315),de P "MOST_FACTORED" 623 (.int 1000000 622),de P "MOST_FACTORIAL" 625 (.int 200 624),de P "ODD_CALLS" 629 (.ref 316),de P "number_term" 636 (.ref 323),de P "number_and_rest" 644 (.ref 330),de P "with_number" 652 (.ref 337),de P "flat_parts" 662 (.ref 344),de P "gathered_sum" 668 (.ref 349),de P "is_one_call" 676 (.ref 356),de P "as_power" 683 (.ref 363),de P "gathered_product" 698 (.ref 370),de P "power_of" 704 (.ref 375),de P "split_power" 715 (.ref 382),de P "number_power" 723 (.ref 389),de P "radical_of" 740 (.ref 396),de P "begins_below" 748 (.ref 403),de P "negated_term" 754 (.ref 408),de P "exp_of" 766 (.ref 415),de P "log_of" 773 (.ref 422),de P "factorial_of" 782 (.ref 429),de P "call_of" 791 (.ref 436),de P "simplify" 797 (.ref 441),de P "sum_parts" 806 (.ref 448)]
noncomputable def G3(P:Params):Obj:=oD (de P "__name__" 165 (vs "cas.expand" 798)::M3 P) 84
noncomputable def L3:List Value:=catV L2 [.int 179 0,.int 0 0,.ref 301,.int 190 0,.int 0 0,.ref 308,.int 204 0,.int 0 0,.ref 322,.int 206 0,.int 0 0,.ref 329,.int 213 0,.int 0 0,.ref 336,.int 219 0,.int 0 0,.ref 343,.int 224 0,.int 0 0,.ref 348,.int 237 0,.int 0 0,.ref 355,.int 239 0,.int 0 0,.ref 362,.int 245 0,.int 0 0,.ref 369,.int 269 0,.int 0 0,.ref 374,.int 289 0,.int 0 0,.ref 381,.int 294 0,.int 0 0,.ref 388,.int 308 0,.int 0 0,.ref 395,.int 322 0,.int 0 0,.ref 402,.int 325 0,.int 0 0,.ref 407,.int 329 0,.int 0 0,.ref 414,.int 342 0,.int 0 0,.ref 421,.int 350 0,.int 0 0,.ref 428,.int 359 0,.int 0 0,.ref 435,.int 382 0,.int 0 0,.ref 440,.int 399 0,.int 0 0,.ref 447]
noncomputable def C3:Obj:=oF L3
noncomputable def o298:=oT (nv 581 ["ones","others","found","at","spot","is_first"])
noncomputable def o300:=oD0 50 "merged_terms"
noncomputable def o301:=oK "merged_terms" 578 179 2 3 296 297 .none (.ref 298) (.ref 299) 300 587
noncomputable def o302:=oF1 50 "merged_terms" "cas.termorder" 462 301
noncomputable def o305:=oT (nv 593 ["some_terms","middle"])
noncomputable def o307:=oD0 51 "sort_terms"
noncomputable def o308:=oK "sort_terms" 590 190 1 3 303 304 .none (.ref 305) (.ref 306) 307 595
noncomputable def o309:=oF1 51 "sort_terms" "cas.termorder" 462 308
noncomputable def o310:=oT [vs "num" 600,.int 0 601,.int 1 602]
noncomputable def o311:=oT [vs "num" 604,.int 1 605,.int 1 606]
noncomputable def o312:=oT [vs "num" 608,.int (-1) 610,.int 1 611]
noncomputable def o313:=oT [vs "num" 613,.int 1 614,.int 2 615]
noncomputable def o314:=oT [.ref 311]
noncomputable def o315:=oT [vs "call" 617,vs "exp" 618,.ref 314]
noncomputable def o316:=oT (nv 626 ["sin","tan","atan"])
noncomputable def o319:=oT (nv 633 ["r"])
noncomputable def o321:=oD0 61 "number_term"
noncomputable def o322:=oK "number_term" 630 204 1 3 317 318 .none (.ref 319) (.ref 320) 321 634
noncomputable def o323:=oF1 61 "number_term" "cas.simp" 598 322
noncomputable def o326:=oT (nv 640 ["t","rest"])
noncomputable def o328:=oD0 62 "number_and_rest"
noncomputable def o329:=oK "number_and_rest" 637 206 1 3 324 325 .none (.ref 326) (.ref 327) 328 642
noncomputable def o330:=oF1 62 "number_and_rest" "cas.simp" 598 329
noncomputable def o333:=oT (nv 648 ["r","rest"])
noncomputable def o335:=oD0 63 "with_number"
noncomputable def o336:=oK "with_number" 645 213 2 3 331 332 .none (.ref 333) (.ref 334) 335 650
noncomputable def o337:=oF1 63 "with_number" "cas.simp" 598 336
noncomputable def o340:=oT (nv 656 ["parts","kind","found","part"])
noncomputable def o342:=oD0 64 "flat_parts"
noncomputable def o343:=oK "flat_parts" 653 219 2 3 338 339 .none (.ref 340) (.ref 341) 342 660
noncomputable def o344:=oF1 64 "flat_parts" "cas.simp" 598 343
noncomputable def o347:=oD0 65 "gathered_sum"
noncomputable def o348:=oK "gathered_sum" 663 224 1 3 345 346 .none .none .none 347 666
noncomputable def o349:=oF1 65 "gathered_sum" "cas.simp" 598 348
noncomputable def o352:=oT (nv 672 ["t","name"])
noncomputable def o354:=oD0 66 "is_one_call"
noncomputable def o355:=oK "is_one_call" 669 237 2 3 350 351 .none (.ref 352) (.ref 353) 354 674
noncomputable def o356:=oF1 66 "is_one_call" "cas.simp" 598 355
noncomputable def o359:=oT (nv 680 ["t"])
noncomputable def o361:=oD0 67 "as_power"
noncomputable def o362:=oK "as_power" 677 239 1 3 357 358 .none (.ref 359) (.ref 360) 361 681
noncomputable def o363:=oF1 67 "as_power" "cas.simp" 598 362
noncomputable def o366:=oT (nv 687 ["parts","number","exponents","part","base","exponent","found","is_done","made"])
noncomputable def o368:=oD0 68 "gathered_product"
noncomputable def o369:=oK "gathered_product" 684 245 1 3 364 365 .none (.ref 366) (.ref 367) 368 696
noncomputable def o370:=oF1 68 "gathered_product" "cas.simp" 598 369
noncomputable def o373:=oD0 69 "power_of"
noncomputable def o374:=oK "power_of" 699 269 2 3 371 372 .none .none .none 373 702
noncomputable def o375:=oF1 69 "power_of" "cas.simp" 598 374
noncomputable def o378:=oT (nv 708 ["base","exponent","value","whole","left"])
noncomputable def o380:=oD0 70 "split_power"
noncomputable def o381:=oK "split_power" 705 289 2 3 376 377 .none (.ref 378) (.ref 379) 380 713
noncomputable def o382:=oF1 70 "split_power" "cas.simp" 598 381
noncomputable def o385:=oT (nv 719 ["base","exponent"])
noncomputable def o387:=oD0 71 "number_power"
noncomputable def o388:=oK "number_power" 716 294 2 3 383 384 .none (.ref 385) (.ref 386) 387 721
noncomputable def o389:=oF1 71 "number_power" "cas.simp" 598 388
noncomputable def o392:=oT (nv 727 ["base","exponent","number","roots","value","sign","prime","many","wanted","whole","left"])
noncomputable def o394:=oD0 72 "radical_of"
noncomputable def o395:=oK "radical_of" 724 308 2 3 390 391 .none (.ref 392) (.ref 393) 394 738
noncomputable def o396:=oF1 72 "radical_of" "cas.simp" 598 395
noncomputable def o399:=oT (nv 744 ["t","first"])
noncomputable def o401:=oD0 73 "begins_below"
noncomputable def o402:=oK "begins_below" 741 322 1 3 397 398 .none (.ref 399) (.ref 400) 401 746
noncomputable def o403:=oF1 73 "begins_below" "cas.simp" 598 402
noncomputable def o406:=oD0 74 "negated_term"
noncomputable def o407:=oK "negated_term" 749 325 1 3 404 405 .none .none .none 406 752
noncomputable def o408:=oF1 74 "negated_term" "cas.simp" 598 407
noncomputable def o411:=oT (nv 758 ["arg","found","left","part","number","rest"])
noncomputable def o413:=oD0 75 "exp_of"
noncomputable def o414:=oK "exp_of" 755 329 1 3 409 410 .none (.ref 411) (.ref 412) 413 764
noncomputable def o415:=oF1 75 "exp_of" "cas.simp" 598 414
noncomputable def o418:=oT (nv 770 ["arg"])
noncomputable def o420:=oD0 76 "log_of"
noncomputable def o421:=oK "log_of" 767 342 1 3 416 417 .none (.ref 418) (.ref 419) 420 771
noncomputable def o422:=oF1 76 "log_of" "cas.simp" 598 421
noncomputable def o425:=oT (nv 777 ["arg","found","step"])
noncomputable def o427:=oD0 77 "factorial_of"
noncomputable def o428:=oK "factorial_of" 774 350 1 3 423 424 .none (.ref 425) (.ref 426) 427 780
noncomputable def o429:=oF1 77 "factorial_of" "cas.simp" 598 428
noncomputable def o432:=oT (nv 786 ["name","args","arg"])
noncomputable def o434:=oD0 78 "call_of"
noncomputable def o435:=oK "call_of" 783 359 2 3 430 431 .none (.ref 432) (.ref 433) 434 789
noncomputable def o436:=oF1 78 "call_of" "cas.simp" 598 435
noncomputable def o439:=oD0 79 "simplify"
noncomputable def o440:=oK "simplify" 792 382 1 3 437 438 .none .none .none 439 795
noncomputable def o441:=oF1 79 "simplify" "cas.simp" 598 440
noncomputable def o444:=oT (nv 803 ["t"])
noncomputable def o446:=oD0 81 "sum_parts"
noncomputable def o447:=oK "sum_parts" 800 399 1 3 442 443 .none (.ref 444) (.ref 445) 446 804
noncomputable def o448:=oF1 81 "sum_parts" "cas.expand" 798 447
noncomputable def T3(P:Params):BT:=JJ (b0 P) (JJ (b1 P) (JJ (G3 P) (JJ (b7 P) (JJ o15 (JJ o31 (JJ eT (JJ o127 (YY eF) (YY eT)) (JJ o191 (YY o319) (YY o447))) (JJ o95 (JJ eT (YY o287) (YY o415)) (JJ eT (YY eF) ZZ))) (JJ o47 (JJ eT (JJ o143 (YY eT) (YY o399)) (JJ o207 (YY o335) ZZ)) (JJ o111 (JJ o175 (YY eT) (YY eF)) (JJ o239 (YY eT) ZZ)))) (JJ eF (JJ o39 (JJ o71 (JJ eT (YY o263) (YY eF)) (JJ o199 (YY eT) ZZ)) (JJ eT (JJ eF (YY o295) (YY eT)) (JJ eT (YY o359) ZZ))) (JJ o55 (JJ eF (JJ o151 (YY o279) (YY o407)) (JJ eT (YY o343) ZZ)) (JJ o119 (JJ eT (YY o311) (YY o439)) (JJ eT (YY o375) ZZ))))) (JJ eT (JJ o19 (JJ eT (JJ o67 (JJ eT (YY o259) (YY o387)) (JJ eF (YY o323) ZZ)) (JJ o99 (JJ o163 (YY o291) (YY eT)) (JJ (o227 P) (YY o355) ZZ))) (JJ o51 (JJ o83 (JJ o147 (YY eT) (YY o403)) (JJ eT (YY eF) ZZ)) (JJ eF (JJ o179 (YY o307) (YY o435)) (JJ eF (YY eT) ZZ)))) (JJ o27 (JJ eF (JJ eT (JJ o139 (YY o267) (YY o395)) (JJ o203 (YY eT) ZZ)) (JJ eT (JJ o171 (YY eT) (YY o427)) (JJ eT (YY o363) ZZ))) (JJ eT (JJ o91 (JJ eT (YY eF) (YY o411)) (JJ o219 (YY o347) ZZ)) (JJ o123 (JJ eT (YY o315) (YY eF)) (JJ o251 (YY eT) ZZ)))))) (JJ (b5 P) (JJ (b9 P) (JJ (o17 P) (JJ o33 (JJ o65 (JJ eF (YY eT) (YY o385)) (JJ o193 (YY o321) ZZ)) (JJ o97 (JJ o161 (YY eT) (YY eF)) (JJ o225 (YY eT) ZZ))) (JJ eT (JJ o81 (JJ eT (YY o273) (YY o401)) (JJ eF (YY o337) ZZ)) (JJ o113 (JJ o177 (YY o305) (YY eT)) (JJ o241 (YY o369) ZZ)))) (JJ eT (JJ o41 (JJ eF (JJ o137 (YY o265) (YY eT)) (JJ eT (YY o329) ZZ)) (JJ o105 (JJ eT (YY eF) (YY o425)) (JJ o233 (YY o361) ZZ))) (JJ eF (JJ eT (JJ eF (YY o281) (YY eT)) (JJ o217 (YY eT) ZZ)) (JJ eT (JJ o185 (YY o313) (YY o441)) (JJ o249 (YY eF) ZZ))))) (JJ b13 (JJ o21 (JJ o37 (JJ o69 (JJ o133 (YY eT) (YY o389)) (JJ eT (YY eF) ZZ)) (JJ eF (JJ o165 (YY o293) (YY o421)) (JJ eF (YY eT) ZZ))) (JJ o53 (JJ o85 (JJ o149 (YY o277) (YY eF)) (JJ o213 (YY eT) ZZ)) (JJ eT (JJ eF (YY o309) (YY eT)) (JJ o245 (YY o373) ZZ)))) (JJ o29 (JJ eT (JJ o77 (JJ o141 (YY eF) (YY eT)) (JJ o205 (YY o333) ZZ)) (JJ o109 (JJ eT (YY o301) (YY o429)) (JJ o237 (YY eF) ZZ))) (JJ o61 (JJ eT (JJ o157 (YY eT) (YY o413)) (JJ eF (YY o349) ZZ)) (JJ o125 (JJ o189 (YY eT) (YY eT)) (JJ o253 (YY o381) ZZ))))))) (JJ (c1_2 P) (JJ (b4 P) (JJ (b8 P) (JJ o16 (JJ o32 (JJ eF (JJ eT (YY o256) (YY eF)) (JJ o192 (YY eT) (YY o448))) (JJ eT (JJ eF (YY o288) (YY eT)) (JJ o224 (YY o352) ZZ))) (JJ o48 (JJ eF (JJ o144 (YY o272) (YY eT)) (JJ eT (YY o336) ZZ)) (JJ o112 (JJ eT (YY eF) (YY o432)) (JJ o240 (YY o368) ZZ)))) (JJ o24 (JJ o40 (JJ eT (JJ eF (YY eT) (YY o392)) (JJ o200 (YY o328) ZZ)) (JJ o104 (JJ o168 (YY eT) (YY eF)) (JJ o232 (YY eT) ZZ))) (JJ eT (JJ o88 (JJ eT (YY o280) (YY o408)) (JJ eF (YY o344) ZZ)) (JJ o120 (JJ o184 (YY o312) (YY o440)) (JJ eF (YY eT) ZZ))))) (JJ C3 (JJ o20 (JJ eF (JJ o68 (JJ o132 (YY o260) (YY o388)) (JJ o196 (YY eT) ZZ)) (JJ eT (JJ o164 (YY eT) (YY o420)) (JJ eT (YY o356) ZZ))) (JJ eT (JJ o84 (JJ eT (YY eF) (YY eT)) (JJ o212 (YY o340) ZZ)) (JJ o116 (JJ eT (YY o308) (YY o436)) (JJ o244 (YY eF) ZZ)))) (JJ o28 (JJ o44 (JJ o76 (JJ o140 (YY eT) (YY o396)) (JJ eT (YY eF) ZZ)) (JJ eF (JJ o172 (YY o300) (YY o428)) (JJ eF (YY eT) ZZ))) (JJ o60 (JJ o92 (JJ o156 (YY o284) (YY eT)) (JJ eT (YY o348) ZZ)) (JJ eT (JJ eF (YY o316) (YY o444)) (JJ o252 (YY o380) ZZ)))))) (JJ (b6 P) (JJ (b10 P) (JJ eT (JJ o34 (JJ eT (JJ o130 (YY o258) (YY eT)) (JJ eT (YY o322) ZZ)) (JJ o98 (JJ eT (YY eF) (YY o418)) (JJ o226 (YY o354) ZZ))) (JJ eF (JJ eT (JJ eF (YY o274) (YY o402)) (JJ o210 (YY eT) ZZ)) (JJ eT (JJ o178 (YY eT) (YY o434)) (JJ eT (YY o370) ZZ)))) (JJ o26 (JJ eT (JJ o74 (JJ eT (YY o266) (YY o394)) (JJ eF (YY o330) ZZ)) (JJ o106 (JJ o170 (YY o298) (YY eT)) (JJ o234 (YY o362) ZZ))) (JJ o58 (JJ o90 (JJ o154 (YY eT) (YY eF)) (JJ o218 (YY eF) ZZ)) (JJ eF (JJ o186 (YY o314) (YY eT)) (JJ eT (YY o378) ZZ))))) (JJ b14 (JJ eT (JJ eT (JJ o70 (JJ o134 (YY eF) (YY eT)) (JJ o198 (YY o326) ZZ)) (JJ o102 (JJ eT (YY o294) (YY o422)) (JJ o230 (YY eF) ZZ))) (JJ o54 (JJ eT (JJ o150 (YY eT) (YY o406)) (JJ o214 (YY o342) ZZ)) (JJ o118 (JJ o182 (YY o310) (YY eF)) (JJ o246 (YY o374) ZZ)))) (JJ (o30 P) (JJ o46 (JJ o78 (JJ o142 (YY o270) (YY eF)) (JJ o206 (YY eT) ZZ)) (JJ eT (JJ eF (YY o302) (YY eT)) (JJ eT (YY o366) ZZ))) (JJ o62 (JJ eF (JJ o158 (YY o286) (YY o414)) (JJ o222 (YY eT) ZZ)) (JJ o126 (JJ eT (YY eF) (YY o446)) (JJ eT (YY o382) ZZ)))))))
noncomputable def S3(w:World)(os:OsState):SharedT:=⟨T3 w.params,449,lf,#[],{ },807,os⟩
noncomputable def q3:Pos:={ line:=399,col:=0,endLine:=400,endCol:=47 }
noncomputable def Z3:List Stmt:=(bd.drop 50).take 32
theorem run3(w:World)(os:OsState):segRunT treeTable pw w m0 an 1 800 (S2 w os) (piecesOf Z3 ev cE q2 tf)=some (.next,S3 w os,cE,q3):=by(rw[PySem.W.Fast.te10110043849684766642,PySem.W.Fast.te14364793385576792824];kernel_rfl)
noncomputable def M4(P:Params):List DictEntry:=catE (M3 P) [de P "mul_out" 812 (.ref 453),de P "mul_all_out" 821 (.ref 460),de P "power_out" 830 (.ref 467),de P "expand_power" 838 (.ref 474),de P "expand_once" 844 (.ref 479),de P "expand" 853 (.ref 486),de P "binomial_row" 864 (.ref 493),de P "bernoulli_row" 876 (.ref 500),de P "power_sum" 887 (.ref 507),de P "ztrim" 897 (.ref 514),de P "zdegree" 904 (.ref 521),de P "zlead" 911 (.ref 528),de P "zadd" 917 (.ref 533),de P "zneg" 923 (.ref 538),de P "zsub" 931 (.ref 545),de P "zscale" 937 (.ref 550),de P "zraise" 945 (.ref 557),de P "zcontent" 952 (.ref 564),de P "zdivided" 958 (.ref 569),de P "zprimitive" 966 (.ref 576),de P "zshift" 977 (.ref 583),de P "qtrim" 987 (.ref 590),de P "qdegree" 994 (.ref 597),de P "qlead" 1001 (.ref 604),de P "qadd" 1007 (.ref 609),de P "qneg" 1013 (.ref 614)]
noncomputable def G4(P:Params):Obj:=oD (de P "__name__" 165 (vs "cas.qpoly" 978)::M4 P) 110
noncomputable def L4:List Value:=catV L3 [.int 401 0,.int 0 0,.ref 452,.int 405 0,.int 0 0,.ref 459,.int 410 0,.int 0 0,.ref 466,.int 419 0,.int 0 0,.ref 473,.int 425 0,.int 0 0,.ref 478,.int 440 0,.int 0 0,.ref 485,.int 446 0,.int 0 0,.ref 492,.int 451 0,.int 0 0,.ref 499,.int 459 0,.int 0 0,.ref 506,.int 466 0,.int 0 0,.ref 513,.int 471 0,.int 0 0,.ref 520,.int 473 0,.int 0 0,.ref 527,.int 475 0,.int 0 0,.ref 532,.int 478 0,.int 0 0,.ref 537,.int 480 0,.int 0 0,.ref 544,.int 482 0,.int 0 0,.ref 549,.int 484 0,.int 0 0,.ref 556,.int 486 0,.int 0 0,.ref 563,.int 488 0,.int 0 0,.ref 568,.int 490 0,.int 0 0,.ref 575,.int 495 0,.int 0 0,.ref 582,.int 502 0,.int 0 0,.ref 589,.int 507 0,.int 0 0,.ref 596,.int 509 0,.int 0 0,.ref 603,.int 511 0,.int 0 0,.ref 608,.int 514 0,.int 0 0,.ref 613]
noncomputable def C4:Obj:=oF L4
noncomputable def o451:=oD0 82 "mul_out"
noncomputable def o452:=oK "mul_out" 807 401 2 3 449 450 .none .none .none 451 810
noncomputable def o453:=oF1 82 "mul_out" "cas.expand" 798 452
noncomputable def o456:=oT (nv 816 ["parts","found","part"])
noncomputable def o458:=oD0 83 "mul_all_out"
noncomputable def o459:=oK "mul_all_out" 813 405 1 3 454 455 .none (.ref 456) (.ref 457) 458 819
noncomputable def o460:=oF1 83 "mul_all_out" "cas.expand" 798 459
noncomputable def o463:=oT (nv 825 ["base","many","found"])
noncomputable def o465:=oD0 84 "power_out"
noncomputable def o466:=oK "power_out" 822 410 2 3 461 462 .none (.ref 463) (.ref 464) 465 828
noncomputable def o467:=oF1 84 "power_out" "cas.expand" 798 466
noncomputable def o470:=oT (nv 834 ["base","exponent"])
noncomputable def o472:=oD0 85 "expand_power"
noncomputable def o473:=oK "expand_power" 831 419 2 3 468 469 .none (.ref 470) (.ref 471) 472 836
noncomputable def o474:=oF1 85 "expand_power" "cas.expand" 798 473
noncomputable def o477:=oD0 86 "expand_once"
noncomputable def o478:=oK "expand_once" 839 425 1 3 475 476 .none .none .none 477 842
noncomputable def o479:=oF1 86 "expand_once" "cas.expand" 798 478
noncomputable def o482:=oT (nv 848 ["t","ahead","found"])
noncomputable def o484:=oD0 87 "expand"
noncomputable def o485:=oK "expand" 845 440 1 3 480 481 .none (.ref 482) (.ref 483) 484 851
noncomputable def o486:=oF1 87 "expand" "cas.expand" 798 485
noncomputable def o489:=oT (nv 859 ["n","found","k"])
noncomputable def o491:=oD0 89 "binomial_row"
noncomputable def o492:=oK "binomial_row" 856 446 1 3 487 488 .none (.ref 489) (.ref 490) 491 862
noncomputable def o493:=oF1 89 "binomial_row" "cas.faulhaber" 854 492
noncomputable def o496:=oT (nv 868 ["n","found","m","row","total","k"])
noncomputable def o498:=oD0 90 "bernoulli_row"
noncomputable def o499:=oK "bernoulli_row" 865 451 1 3 494 495 .none (.ref 496) (.ref 497) 498 874
noncomputable def o500:=oF1 90 "bernoulli_row" "cas.faulhaber" 854 499
noncomputable def o503:=oT (nv 880 ["k","row","known","found","power"])
noncomputable def o505:=oD0 91 "power_sum"
noncomputable def o506:=oK "power_sum" 877 459 1 3 501 502 .none (.ref 503) (.ref 504) 505 885
noncomputable def o507:=oF1 91 "power_sum" "cas.faulhaber" 854 506
noncomputable def o510:=oT (nv 893 ["row","size"])
noncomputable def o512:=oD0 93 "ztrim"
noncomputable def o513:=oK "ztrim" 890 466 1 3 508 509 .none (.ref 510) (.ref 511) 512 895
noncomputable def o514:=oF1 93 "ztrim" "cas.zpoly" 888 513
noncomputable def o517:=oT (nv 901 ["p"])
noncomputable def o519:=oD0 94 "zdegree"
noncomputable def o520:=oK "zdegree" 898 471 1 3 515 516 .none (.ref 517) (.ref 518) 519 902
noncomputable def o521:=oF1 94 "zdegree" "cas.zpoly" 888 520
noncomputable def o524:=oT (nv 908 ["p"])
noncomputable def o526:=oD0 95 "zlead"
noncomputable def o527:=oK "zlead" 905 473 1 3 522 523 .none (.ref 524) (.ref 525) 526 909
noncomputable def o528:=oF1 95 "zlead" "cas.zpoly" 888 527
noncomputable def o531:=oD0 96 "zadd"
noncomputable def o532:=oK "zadd" 912 475 2 3 529 530 .none .none .none 531 915
noncomputable def o533:=oF1 96 "zadd" "cas.zpoly" 888 532
noncomputable def o536:=oD0 97 "zneg"
noncomputable def o537:=oK "zneg" 918 478 1 3 534 535 .none .none .none 536 921
noncomputable def o538:=oF1 97 "zneg" "cas.zpoly" 888 537
noncomputable def o541:=oT (nv 927 ["a","b"])
noncomputable def o543:=oD0 98 "zsub"
noncomputable def o544:=oK "zsub" 924 480 2 3 539 540 .none (.ref 541) (.ref 542) 543 929
noncomputable def o545:=oF1 98 "zsub" "cas.zpoly" 888 544
noncomputable def o548:=oD0 99 "zscale"
noncomputable def o549:=oK "zscale" 932 482 2 3 546 547 .none .none .none 548 935
noncomputable def o550:=oF1 99 "zscale" "cas.zpoly" 888 549
noncomputable def o553:=oT (nv 941 ["p","many"])
noncomputable def o555:=oD0 100 "zraise"
noncomputable def o556:=oK "zraise" 938 484 2 3 551 552 .none (.ref 553) (.ref 554) 555 943
noncomputable def o557:=oF1 100 "zraise" "cas.zpoly" 888 556
noncomputable def o560:=oT (nv 949 ["p"])
noncomputable def o562:=oD0 101 "zcontent"
noncomputable def o563:=oK "zcontent" 946 486 1 3 558 559 .none (.ref 560) (.ref 561) 562 950
noncomputable def o564:=oF1 101 "zcontent" "cas.zpoly" 888 563
noncomputable def o567:=oD0 102 "zdivided"
noncomputable def o568:=oK "zdivided" 953 488 2 3 565 566 .none .none .none 567 956
noncomputable def o569:=oF1 102 "zdivided" "cas.zpoly" 888 568
noncomputable def o572:=oT (nv 962 ["p","content"])
noncomputable def o574:=oD0 103 "zprimitive"
noncomputable def o575:=oK "zprimitive" 959 490 1 3 570 571 .none (.ref 572) (.ref 573) 574 964
noncomputable def o576:=oF1 103 "zprimitive" "cas.zpoly" 888 575
noncomputable def o579:=oT (nv 970 ["p","n","found","low","at"])
noncomputable def o581:=oD0 104 "zshift"
noncomputable def o582:=oK "zshift" 967 495 2 3 577 578 .none (.ref 579) (.ref 580) 581 975
noncomputable def o583:=oF1 104 "zshift" "cas.zpoly" 888 582
noncomputable def o586:=oT (nv 983 ["row","size"])
noncomputable def o588:=oD0 106 "qtrim"
noncomputable def o589:=oK "qtrim" 980 502 1 3 584 585 .none (.ref 586) (.ref 587) 588 985
noncomputable def o590:=oF1 106 "qtrim" "cas.qpoly" 978 589
noncomputable def o593:=oT (nv 991 ["p"])
noncomputable def o595:=oD0 107 "qdegree"
noncomputable def o596:=oK "qdegree" 988 507 1 3 591 592 .none (.ref 593) (.ref 594) 595 992
noncomputable def o597:=oF1 107 "qdegree" "cas.qpoly" 978 596
noncomputable def o600:=oT (nv 998 ["p"])
noncomputable def o602:=oD0 108 "qlead"
noncomputable def o603:=oK "qlead" 995 509 1 3 598 599 .none (.ref 600) (.ref 601) 602 999
noncomputable def o604:=oF1 108 "qlead" "cas.qpoly" 978 603
noncomputable def o607:=oD0 109 "qadd"
noncomputable def o608:=oK "qadd" 1002 511 2 3 605 606 .none .none .none 607 1005
noncomputable def o609:=oF1 109 "qadd" "cas.qpoly" 978 608
noncomputable def o612:=oD0 110 "qneg"
noncomputable def o613:=oK "qneg" 1008 514 1 3 610 611 .none .none .none 612 1011
noncomputable def o614:=oF1 110 "qneg" "cas.qpoly" 978 613
noncomputable def T4(P:Params):BT:=JJ (b0 P) (JJ (b1 P) (JJ (G4 P) (JJ (b7 P) (JJ o15 (JJ o31 (JJ eT (JJ o127 (JJ eF (YY eT) ZZ) (YY eT)) (JJ o191 (JJ o319 (YY o575) ZZ) (YY o447))) (JJ o95 (JJ eT (JJ o287 (YY o543) ZZ) (YY o415)) (JJ eT (JJ eF (YY o607) ZZ) (YY o479)))) (JJ o47 (JJ eT (JJ o143 (JJ eT (YY o527) ZZ) (YY o399)) (JJ o207 (JJ o335 (YY eT) ZZ) (YY o463))) (JJ o111 (JJ o175 (JJ eT (YY eF) ZZ) (YY eF)) (JJ o239 (YY eT) (YY eF))))) (JJ eF (JJ o39 (JJ o71 (JJ eT (JJ o263 (YY o519) ZZ) (YY eF)) (JJ o199 (JJ eT (YY o583) ZZ) (YY eF))) (JJ eT (JJ eF (JJ o295 (YY eT) ZZ) (YY eT)) (JJ eT (YY o359) (YY eT)))) (JJ o55 (JJ eF (JJ o151 (JJ o279 (YY eF) ZZ) (YY o407)) (JJ eT (JJ o343 (YY eF) ZZ) (YY eT))) (JJ o119 (JJ eT (JJ o311 (YY o567) ZZ) (YY o439)) (JJ eT (YY o375) (YY o503)))))) (JJ eT (JJ o19 (JJ eT (JJ o67 (JJ eT (JJ o259 (YY eT) ZZ) (YY o387)) (JJ eF (JJ o323 (YY o579) ZZ) (YY o451))) (JJ o99 (JJ o163 (JJ o291 (YY eF) ZZ) (YY eT)) (JJ (o227 P) (JJ o355 (YY eF) ZZ) (YY eT)))) (JJ o51 (JJ o83 (JJ o147 (JJ eT (YY o531) ZZ) (YY o403)) (JJ eT (JJ eF (YY o595) ZZ) (YY o467))) (JJ eF (JJ o179 (JJ o307 (YY o563) ZZ) (YY o435)) (JJ eF (YY eT) (YY o499))))) (JJ o27 (JJ eF (JJ eT (JJ o139 (JJ o267 (YY eF) ZZ) (YY o395)) (JJ o203 (JJ eT (YY eT) ZZ) (YY o459))) (JJ eT (JJ o171 (JJ eT (YY o555) ZZ) (YY o427)) (JJ eT (YY o363) (YY o491)))) (JJ eT (JJ o91 (JJ eT (JJ eF (YY eT) ZZ) (YY o411)) (JJ o219 (JJ o347 (YY o603) ZZ) (YY eT))) (JJ o123 (JJ eT (JJ o315 (YY eF) ZZ) (YY eF)) (JJ o251 (YY eT) (YY o507))))))) (JJ (b5 P) (JJ (b9 P) (JJ (o17 P) (JJ o33 (JJ o65 (JJ eF (JJ eT (YY o513) ZZ) (YY o385)) (JJ o193 (JJ o321 (YY eT) ZZ) (YY eT))) (JJ o97 (JJ o161 (JJ eT (YY o545) ZZ) (YY eF)) (JJ o225 (JJ eT (YY o609) ZZ) (YY eF)))) (JJ eT (JJ o81 (JJ eT (JJ o273 (YY eT) ZZ) (YY o401)) (JJ eF (JJ o337 (YY o593) ZZ) (YY o465))) (JJ o113 (JJ o177 (JJ o305 (YY eT) ZZ) (YY eT)) (JJ o241 (YY o369) (YY eT))))) (JJ eT (JJ o41 (JJ eF (JJ o137 (JJ o265 (YY o521) ZZ) (YY eT)) (JJ eT (JJ o329 (YY eF) ZZ) (YY eT))) (JJ o105 (JJ eT (JJ eF (YY o553) ZZ) (YY o425)) (JJ o233 (YY o361) (YY o489)))) (JJ eF (JJ eT (JJ eF (JJ o281 (YY o537) ZZ) (YY eT)) (JJ o217 (JJ eT (YY eT) ZZ) (YY o473))) (JJ eT (JJ o185 (JJ o313 (YY o569) ZZ) (YY o441)) (JJ o249 (YY eF) (YY o505)))))) (JJ b13 (JJ o21 (JJ o37 (JJ o69 (JJ o133 (JJ eT (YY o517) ZZ) (YY o389)) (JJ eT (JJ eF (YY o581) ZZ) (YY o453))) (JJ eF (JJ o165 (JJ o293 (YY o549) ZZ) (YY o421)) (JJ eF (JJ eT (YY o613) ZZ) (YY o485)))) (JJ o53 (JJ o85 (JJ o149 (JJ o277 (YY o533) ZZ) (YY eF)) (JJ o213 (JJ eT (YY o597) ZZ) (YY eF))) (JJ eT (JJ eF (JJ o309 (YY eT) ZZ) (YY eT)) (JJ o245 (YY o373) (YY eT))))) (JJ o29 (JJ eT (JJ o77 (JJ o141 (JJ eF (YY eT) ZZ) (YY eT)) (JJ o205 (JJ o333 (YY o589) ZZ) (YY eT))) (JJ o109 (JJ eT (JJ o301 (YY o557) ZZ) (YY o429)) (JJ o237 (YY eF) (YY o493)))) (JJ o61 (JJ eT (JJ o157 (JJ eT (YY o541) ZZ) (YY o413)) (JJ eF (JJ o349 (YY eT) ZZ) (YY o477))) (JJ o125 (JJ o189 (JJ eT (YY eT) ZZ) (YY eT)) (JJ o253 (YY o381) (YY eF)))))))) (JJ (c1_2 P) (JJ (b4 P) (JJ (b8 P) (JJ o16 (JJ o32 (JJ eF (JJ eT (JJ o256 (YY o512) ZZ) (YY eF)) (JJ o192 (JJ eT (YY o576) ZZ) (YY o448))) (JJ eT (JJ eF (JJ o288 (YY o544) ZZ) (YY eT)) (JJ o224 (JJ o352 (YY o608) ZZ) (YY eT)))) (JJ o48 (JJ eF (JJ o144 (JJ o272 (YY o528) ZZ) (YY eT)) (JJ eT (JJ o336 (YY eF) ZZ) (YY eT))) (JJ o112 (JJ eT (JJ eF (YY o560) ZZ) (YY o432)) (JJ o240 (YY o368) (YY o496))))) (JJ o24 (JJ o40 (JJ eT (JJ eF (JJ eT (YY o520) ZZ) (YY o392)) (JJ o200 (JJ o328 (YY eT) ZZ) (YY o456))) (JJ o104 (JJ o168 (JJ eT (YY eF) ZZ) (YY eF)) (JJ o232 (YY eT) (YY eF)))) (JJ eT (JJ o88 (JJ eT (JJ o280 (YY o536) ZZ) (YY o408)) (JJ eF (JJ o344 (YY o600) ZZ) (YY o472))) (JJ o120 (JJ o184 (JJ o312 (YY o568) ZZ) (YY o440)) (JJ eF (YY eT) (YY eT)))))) (JJ C4 (JJ o20 (JJ eF (JJ o68 (JJ o132 (JJ o260 (YY eF) ZZ) (YY o388)) (JJ o196 (JJ eT (YY eT) ZZ) (YY o452))) (JJ eT (JJ o164 (JJ eT (YY o548) ZZ) (YY o420)) (JJ eT (JJ o356 (YY o612) ZZ) (YY o484)))) (JJ eT (JJ o84 (JJ eT (JJ eF (YY o532) ZZ) (YY eT)) (JJ o212 (JJ o340 (YY o596) ZZ) (YY eT))) (JJ o116 (JJ eT (JJ o308 (YY o564) ZZ) (YY o436)) (JJ o244 (YY eF) (YY o500))))) (JJ o28 (JJ o44 (JJ o76 (JJ o140 (JJ eT (YY o524) ZZ) (YY o396)) (JJ eT (JJ eF (YY o588) ZZ) (YY o460))) (JJ eF (JJ o172 (JJ o300 (YY o556) ZZ) (YY o428)) (JJ eF (YY eT) (YY o492)))) (JJ o60 (JJ o92 (JJ o156 (JJ o284 (YY eF) ZZ) (YY eT)) (JJ eT (JJ o348 (YY o604) ZZ) (YY eF))) (JJ eT (JJ eF (JJ o316 (YY o572) ZZ) (YY o444)) (JJ o252 (YY o380) (YY eT))))))) (JJ (b6 P) (JJ (b10 P) (JJ eT (JJ o34 (JJ eT (JJ o130 (JJ o258 (YY o514) ZZ) (YY eT)) (JJ eT (JJ o322 (YY eF) ZZ) (YY eF))) (JJ o98 (JJ eT (JJ eF (YY eT) ZZ) (YY o418)) (JJ o226 (JJ o354 (YY eT) ZZ) (YY o482)))) (JJ eF (JJ eT (JJ eF (JJ o274 (YY eF) ZZ) (YY o402)) (JJ o210 (JJ eT (YY eT) ZZ) (YY o466))) (JJ eT (JJ o178 (JJ eT (YY o562) ZZ) (YY o434)) (JJ eT (YY o370) (YY o498))))) (JJ o26 (JJ eT (JJ o74 (JJ eT (JJ o266 (YY eT) ZZ) (YY o394)) (JJ eF (JJ o330 (YY o586) ZZ) (YY o458))) (JJ o106 (JJ o170 (JJ o298 (YY eT) ZZ) (YY eT)) (JJ o234 (YY o362) (YY eT)))) (JJ o58 (JJ o90 (JJ o154 (JJ eT (YY o538) ZZ) (YY eF)) (JJ o218 (JJ eF (YY o602) ZZ) (YY o474))) (JJ eF (JJ o186 (JJ o314 (YY eT) ZZ) (YY eT)) (JJ eT (YY o378) (YY o506)))))) (JJ b14 (JJ eT (JJ eT (JJ o70 (JJ o134 (JJ eF (YY eT) ZZ) (YY eT)) (JJ o198 (JJ o326 (YY o582) ZZ) (YY eT))) (JJ o102 (JJ eT (JJ o294 (YY o550) ZZ) (YY o422)) (JJ o230 (JJ eF (YY o614) ZZ) (YY o486)))) (JJ o54 (JJ eT (JJ o150 (JJ eT (YY eT) ZZ) (YY o406)) (JJ o214 (JJ o342 (YY eT) ZZ) (YY o470))) (JJ o118 (JJ o182 (JJ o310 (YY eF) ZZ) (YY eF)) (JJ o246 (YY o374) (YY eF))))) (JJ (o30 P) (JJ o46 (JJ o78 (JJ o142 (JJ o270 (YY o526) ZZ) (YY eF)) (JJ o206 (JJ eT (YY o590) ZZ) (YY eF))) (JJ eT (JJ eF (JJ o302 (YY eT) ZZ) (YY eT)) (JJ eT (YY o366) (YY eT)))) (JJ o62 (JJ eF (JJ o158 (JJ o286 (YY eT) ZZ) (YY o414)) (JJ o222 (JJ eT (YY eF) ZZ) (YY o478))) (JJ o126 (JJ eT (JJ eF (YY o574) ZZ) (YY o446)) (JJ eT (YY o382) (YY o510))))))))
noncomputable def S4(w:World)(os:OsState):SharedT:=⟨T4 w.params,615,lf,#[],{ },1014,os⟩
noncomputable def q4:Pos:={ line:=514,col:=0,endLine:=515,endCol:=41 }
noncomputable def Z4:List Stmt:=(bd.drop 82).take 29
theorem run4(w:World)(os:OsState):segRunT treeTable pw w m0 an 1 785 (S3 w os) (piecesOf Z4 ev cE q3 tf)=some (.next,S4 w os,cE,q4):=by(rw[PySem.W.Fast.te10110043849684766642,PySem.W.Fast.te14364793385576792824];kernel_rfl)
noncomputable def M5(P:Params):List DictEntry:=catE (M4 P) [de P "qsub" 1021 (.ref 621),de P "qscale" 1027 (.ref 626),de P "qraise" 1035 (.ref 633),de P "qmul" 1048 (.ref 640),de P "qdivmod" 1061 (.ref 647),de P "qmonic" 1068 (.ref 654),de P "qgcd" 1076 (.ref 661),de P "qcompose" 1086 (.ref 668),de P "to_z" 1092 (.ref 673),de P "F0" 1095 (.ref 676),de P "F1" 1096 (.ref 679),de P "fmake" 1106 (.ref 686),de P "fpoly" 1113 (.ref 693),de P "fnumber" 1120 (.ref 700),de P "fadd" 1128 (.ref 707),de P "fmul" 1136 (.ref 714),de P "finv" 1143 (.ref 721),de P "fdiv" 1151 (.ref 728),de P "fpower" 1162 (.ref 735),de P "whole_exponent" 1171 (.ref 742),de P "from_term" 1184 (.ref 749),de P "rat_term" 1191 (.ref 756),de P "poly_term" 1202 (.ref 763),de P "to_term" 1210 (.ref 770),de P "in_letter" 1218 (.ref 777),de P "check_bottom" 1227 (.ref 784)]
noncomputable def G5(P:Params):Obj:=oD (de P "__name__" 165 (vs "cas.zdiv" 1219)::M5 P) 136
noncomputable def L5:List Value:=catV L4 [.int 516 0,.int 0 0,.ref 620,.int 518 0,.int 0 0,.ref 625,.int 520 0,.int 0 0,.ref 632,.int 522 0,.int 0 0,.ref 639,.int 530 0,.int 0 0,.ref 646,.int 540 0,.int 0 0,.ref 653,.int 542 0,.int 0 0,.ref 660,.int 546 0,.int 0 0,.ref 667,.int 551 0,.int 0 0,.ref 672,.int 563 0,.int 0 0,.ref 685,.int 573 0,.int 0 0,.ref 692,.int 575 0,.int 0 0,.ref 699,.int 577 0,.int 0 0,.ref 706,.int 579 0,.int 0 0,.ref 713,.int 581 0,.int 0 0,.ref 720,.int 583 0,.int 0 0,.ref 727,.int 585 0,.int 0 0,.ref 734,.int 593 0,.int 0 0,.ref 741,.int 595 0,.int 0 0,.ref 748,.int 612 0,.int 0 0,.ref 755,.int 614 0,.int 0 0,.ref 762,.int 620 0,.int 0 0,.ref 769,.int 624 0,.int 0 0,.ref 776,.int 627 0,.int 0 0,.ref 783]
noncomputable def C5:Obj:=oF L5
noncomputable def o617:=oT (nv 1017 ["a","b"])
noncomputable def o619:=oD0 111 "qsub"
noncomputable def o620:=oK "qsub" 1014 516 2 3 615 616 .none (.ref 617) (.ref 618) 619 1019
noncomputable def o621:=oF1 111 "qsub" "cas.qpoly" 978 620
noncomputable def o624:=oD0 112 "qscale"
noncomputable def o625:=oK "qscale" 1022 518 2 3 622 623 .none .none .none 624 1025
noncomputable def o626:=oF1 112 "qscale" "cas.qpoly" 978 625
noncomputable def o629:=oT (nv 1031 ["p","many"])
noncomputable def o631:=oD0 113 "qraise"
noncomputable def o632:=oK "qraise" 1028 520 2 3 627 628 .none (.ref 629) (.ref 630) 631 1033
noncomputable def o633:=oF1 113 "qraise" "cas.qpoly" 978 632
noncomputable def o636:=oT (nv 1039 ["a","b","found","one","left","other","right"])
noncomputable def o638:=oD0 114 "qmul"
noncomputable def o639:=oK "qmul" 1036 522 2 3 634 635 .none (.ref 636) (.ref 637) 638 1046
noncomputable def o640:=oF1 114 "qmul" "cas.qpoly" 978 639
noncomputable def o643:=oT (nv 1052 ["a","b","rest","found","number","power","lower"])
noncomputable def o645:=oD0 115 "qdivmod"
noncomputable def o646:=oK "qdivmod" 1049 530 2 3 641 642 .none (.ref 643) (.ref 644) 645 1059
noncomputable def o647:=oF1 115 "qdivmod" "cas.qpoly" 978 646
noncomputable def o650:=oT (nv 1065 ["p"])
noncomputable def o652:=oD0 116 "qmonic"
noncomputable def o653:=oK "qmonic" 1062 540 1 3 648 649 .none (.ref 650) (.ref 651) 652 1066
noncomputable def o654:=oF1 116 "qmonic" "cas.qpoly" 978 653
noncomputable def o657:=oT (nv 1072 ["a","b"])
noncomputable def o659:=oD0 117 "qgcd"
noncomputable def o660:=oK "qgcd" 1069 542 2 3 655 656 .none (.ref 657) (.ref 658) 659 1074
noncomputable def o661:=oF1 117 "qgcd" "cas.qpoly" 978 660
noncomputable def o664:=oT (nv 1080 ["a","b","found","number"])
noncomputable def o666:=oD0 118 "qcompose"
noncomputable def o667:=oK "qcompose" 1077 546 2 3 662 663 .none (.ref 664) (.ref 665) 666 1084
noncomputable def o668:=oF1 118 "qcompose" "cas.qpoly" 978 667
noncomputable def o671:=oD0 119 "to_z"
noncomputable def o672:=oK "to_z" 1087 551 1 3 669 670 .none .none .none 671 1090
noncomputable def o673:=oF1 119 "to_z" "cas.qpoly" 978 672
noncomputable def o674:Obj:={ cls:=Value.type "list",data:=Data.seq #[] }
noncomputable def o675:Obj:={ cls:=Value.type "list",data:=Data.seq #[Value.ref 71] }
noncomputable def o676:=oT [.ref 674,.ref 675]
noncomputable def o677:Obj:={ cls:=Value.type "list",data:=Data.seq #[Value.ref 71] }
noncomputable def o678:Obj:={ cls:=Value.type "list",data:=Data.seq #[Value.ref 71] }
noncomputable def o679:=oT [.ref 677,.ref 678]
noncomputable def o682:=oT (nv 1100 ["top","bottom","common","scale"])
noncomputable def o684:=oD0 123 "fmake"
noncomputable def o685:=oK "fmake" 1097 563 2 3 680 681 .none (.ref 682) (.ref 683) 684 1104
noncomputable def o686:=oF1 123 "fmake" "cas.ratfun" 1093 685
noncomputable def o689:=oT (nv 1110 ["p"])
noncomputable def o691:=oD0 124 "fpoly"
noncomputable def o692:=oK "fpoly" 1107 573 1 3 687 688 .none (.ref 689) (.ref 690) 691 1111
noncomputable def o693:=oF1 124 "fpoly" "cas.ratfun" 1093 692
noncomputable def o696:=oT (nv 1117 ["r"])
noncomputable def o698:=oD0 125 "fnumber"
noncomputable def o699:=oK "fnumber" 1114 575 1 3 694 695 .none (.ref 696) (.ref 697) 698 1118
noncomputable def o700:=oF1 125 "fnumber" "cas.ratfun" 1093 699
noncomputable def o703:=oT (nv 1124 ["f","g"])
noncomputable def o705:=oD0 126 "fadd"
noncomputable def o706:=oK "fadd" 1121 577 2 3 701 702 .none (.ref 703) (.ref 704) 705 1126
noncomputable def o707:=oF1 126 "fadd" "cas.ratfun" 1093 706
noncomputable def o710:=oT (nv 1132 ["f","g"])
noncomputable def o712:=oD0 127 "fmul"
noncomputable def o713:=oK "fmul" 1129 579 2 3 708 709 .none (.ref 710) (.ref 711) 712 1134
noncomputable def o714:=oF1 127 "fmul" "cas.ratfun" 1093 713
noncomputable def o717:=oT (nv 1140 ["f"])
noncomputable def o719:=oD0 128 "finv"
noncomputable def o720:=oK "finv" 1137 581 1 3 715 716 .none (.ref 717) (.ref 718) 719 1141
noncomputable def o721:=oF1 128 "finv" "cas.ratfun" 1093 720
noncomputable def o724:=oT (nv 1147 ["f","g"])
noncomputable def o726:=oD0 129 "fdiv"
noncomputable def o727:=oK "fdiv" 1144 583 2 3 722 723 .none (.ref 724) (.ref 725) 726 1149
noncomputable def o728:=oF1 129 "fdiv" "cas.ratfun" 1093 727
noncomputable def o731:=oT (nv 1155 ["f","n","found","base","left"])
noncomputable def o733:=oD0 130 "fpower"
noncomputable def o734:=oK "fpower" 1152 585 2 3 729 730 .none (.ref 731) (.ref 732) 733 1160
noncomputable def o735:=oF1 130 "fpower" "cas.ratfun" 1093 734
noncomputable def o738:=oT (nv 1168 ["t"])
noncomputable def o740:=oD0 132 "whole_exponent"
noncomputable def o741:=oK "whole_exponent" 1165 593 1 3 736 737 .none (.ref 738) (.ref 739) 740 1169
noncomputable def o742:=oF1 132 "whole_exponent" "cas.fterms" 1163 741
noncomputable def o745:=oT (nv 1175 ["t","name","base","n","found","part","one"])
noncomputable def o747:=oD0 133 "from_term"
noncomputable def o748:=oK "from_term" 1172 595 2 3 743 744 .none (.ref 745) (.ref 746) 747 1182
noncomputable def o749:=oF1 133 "from_term" "cas.fterms" 1163 748
noncomputable def o752:=oT (nv 1188 ["r"])
noncomputable def o754:=oD0 134 "rat_term"
noncomputable def o755:=oK "rat_term" 1185 612 1 3 750 751 .none (.ref 752) (.ref 753) 754 1189
noncomputable def o756:=oF1 134 "rat_term" "cas.fterms" 1163 755
noncomputable def o759:=oT (nv 1195 ["p","letter","some","n","r"])
noncomputable def o761:=oD0 135 "poly_term"
noncomputable def o762:=oK "poly_term" 1192 614 2 3 757 758 .none (.ref 759) (.ref 760) 761 1200
noncomputable def o763:=oF1 135 "poly_term" "cas.fterms" 1163 762
noncomputable def o766:=oT (nv 1206 ["f","letter"])
noncomputable def o768:=oD0 136 "to_term"
noncomputable def o769:=oK "to_term" 1203 620 2 3 764 765 .none (.ref 766) (.ref 767) 768 1208
noncomputable def o770:=oF1 136 "to_term" "cas.fterms" 1163 769
noncomputable def o773:=oT (nv 1214 ["f","name"])
noncomputable def o775:=oD0 137 "in_letter"
noncomputable def o776:=oK "in_letter" 1211 624 2 3 771 772 .none (.ref 773) (.ref 774) 775 1216
noncomputable def o777:=oF1 137 "in_letter" "cas.fterms" 1163 776
noncomputable def o780:=oT (nv 1224 ["p"])
noncomputable def o782:=oD0 139 "check_bottom"
noncomputable def o783:=oK "check_bottom" 1221 627 1 3 778 779 .none (.ref 780) (.ref 781) 782 1225
noncomputable def o784:=oF1 139 "check_bottom" "cas.zdiv" 1219 783
noncomputable def T5(P:Params):BT:=JJ (b0 P) (JJ (b1 P) (JJ (G5 P) (JJ (b7 P) (JJ o15 (JJ o31 (JJ eT (JJ o127 (JJ eF (YY eT) (YY eT)) (JJ eT (YY o639) ZZ)) (JJ o191 (JJ o319 (YY o575) ZZ) (JJ o447 (YY o703) ZZ))) (JJ o95 (JJ eT (JJ o287 (YY o543) ZZ) (JJ o415 (YY o671) ZZ)) (JJ eT (JJ eF (YY o607) ZZ) (JJ o479 (YY o735) ZZ)))) (JJ o47 (JJ eT (JJ o143 (JJ eT (YY o527) (YY o783)) (JJ o399 (YY eT) ZZ)) (JJ o207 (JJ o335 (YY eT) ZZ) (JJ o463 (YY o719) ZZ))) (JJ o111 (JJ o175 (JJ eT (YY eF) ZZ) (JJ eF (YY eT) ZZ)) (JJ o239 (JJ eT (YY eF) ZZ) (JJ eF (YY eF) ZZ))))) (JJ eF (JJ o39 (JJ o71 (JJ eT (JJ o263 (YY o519) (YY o775)) (JJ eF (YY o647) ZZ)) (JJ o199 (JJ eT (YY o583) ZZ) (JJ eF (YY eT) ZZ))) (JJ eT (JJ eF (JJ o295 (YY eT) ZZ) (JJ eT (YY o679) ZZ)) (JJ eT (JJ o359 (YY eT) ZZ) (JJ eT (YY eT) ZZ)))) (JJ o55 (JJ eF (JJ o151 (JJ o279 (YY eF) ZZ) (JJ o407 (YY eF) ZZ)) (JJ eT (JJ o343 (YY eF) ZZ) (JJ eT (YY o727) ZZ))) (JJ o119 (JJ eT (JJ o311 (YY o567) ZZ) (JJ o439 (YY eF) ZZ)) (JJ eT (JJ o375 (YY o631) ZZ) (JJ o503 (YY o759) ZZ)))))) (JJ eT (JJ o19 (JJ eT (JJ o67 (JJ eT (JJ o259 (YY eT) (YY eT)) (JJ o387 (YY o643) ZZ)) (JJ eF (JJ o323 (YY o579) ZZ) (JJ o451 (YY o707) ZZ))) (JJ o99 (JJ o163 (JJ o291 (YY eF) ZZ) (JJ eT (YY o675) ZZ)) (JJ (o227 P) (JJ o355 (YY eF) ZZ) (JJ eT (YY eT) ZZ)))) (JJ o51 (JJ o83 (JJ o147 (JJ eT (YY o531) ZZ) (JJ o403 (YY o659) ZZ)) (JJ eT (JJ eF (YY o595) ZZ) (JJ o467 (YY eF) ZZ))) (JJ eF (JJ o179 (JJ o307 (YY o563) ZZ) (JJ o435 (YY o691) ZZ)) (JJ eF (JJ eT (YY eT) ZZ) (JJ o499 (YY o755) ZZ))))) (JJ o27 (JJ eF (JJ eT (JJ o139 (JJ o267 (YY eF) (YY eF)) (JJ o395 (YY eT) ZZ)) (JJ o203 (JJ eT (YY eT) ZZ) (JJ o459 (YY eT) ZZ))) (JJ eT (JJ o171 (JJ eT (YY o555) ZZ) (JJ o427 (YY eT) ZZ)) (JJ eT (JJ o363 (YY o619) ZZ) (JJ o491 (YY o747) ZZ)))) (JJ eT (JJ o91 (JJ eT (JJ eF (YY eT) ZZ) (JJ o411 (YY o667) ZZ)) (JJ o219 (JJ o347 (YY o603) ZZ) (JJ eT (YY o731) ZZ))) (JJ o123 (JJ eT (JJ o315 (YY eF) ZZ) (JJ eF (YY o699) ZZ)) (JJ o251 (JJ eT (YY eF) ZZ) (JJ o507 (YY o763) ZZ))))))) (JJ (b5 P) (JJ (b9 P) (JJ (o17 P) (JJ o33 (JJ o65 (JJ eF (JJ eT (YY o513) (YY o769)) (JJ o385 (YY eT) ZZ)) (JJ o193 (JJ o321 (YY eT) ZZ) (JJ eT (YY o705) ZZ))) (JJ o97 (JJ o161 (JJ eT (YY o545) ZZ) (JJ eF (YY o673) ZZ)) (JJ o225 (JJ eT (YY o609) ZZ) (JJ eF (YY eF) ZZ)))) (JJ eT (JJ o81 (JJ eT (JJ o273 (YY eT) ZZ) (JJ o401 (YY o657) ZZ)) (JJ eF (JJ o337 (YY o593) ZZ) (JJ o465 (YY o721) ZZ))) (JJ o113 (JJ o177 (JJ o305 (YY eT) ZZ) (JJ eT (YY o689) ZZ)) (JJ o241 (JJ o369 (YY o625) ZZ) (JJ eT (YY eT) ZZ))))) (JJ eT (JJ o41 (JJ eF (JJ o137 (JJ o265 (YY o521) (YY o777)) (JJ eT (YY eF) ZZ)) (JJ eT (JJ o329 (YY eF) ZZ) (JJ eT (YY o713) ZZ))) (JJ o105 (JJ eT (JJ eF (YY o553) ZZ) (JJ o425 (YY eF) ZZ)) (JJ o233 (JJ o361 (YY o617) ZZ) (JJ o489 (YY o745) ZZ)))) (JJ eF (JJ eT (JJ eF (JJ o281 (YY o537) ZZ) (JJ eT (YY eT) ZZ)) (JJ o217 (JJ eT (YY eT) ZZ) (JJ o473 (YY eT) ZZ))) (JJ eT (JJ o185 (JJ o313 (YY o569) ZZ) (JJ o441 (YY eT) ZZ)) (JJ o249 (JJ eF (YY o633) ZZ) (JJ o505 (YY o761) ZZ)))))) (JJ b13 (JJ o21 (JJ o37 (JJ o69 (JJ o133 (JJ eT (YY o517) (YY o773)) (JJ o389 (YY o645) ZZ)) (JJ eT (JJ eF (YY o581) ZZ) (JJ o453 (YY eF) ZZ))) (JJ eF (JJ o165 (JJ o293 (YY o549) ZZ) (JJ o421 (YY o677) ZZ)) (JJ eF (JJ eT (YY o613) ZZ) (JJ o485 (YY o741) ZZ)))) (JJ o53 (JJ o85 (JJ o149 (JJ o277 (YY o533) ZZ) (JJ eF (YY o661) ZZ)) (JJ o213 (JJ eT (YY o597) ZZ) (JJ eF (YY eT) ZZ))) (JJ eT (JJ eF (JJ o309 (YY eT) ZZ) (JJ eT (YY o693) ZZ)) (JJ o245 (JJ o373 (YY o629) ZZ) (JJ eT (YY eT) ZZ))))) (JJ o29 (JJ eT (JJ o77 (JJ o141 (JJ eF (YY eT) (YY eT)) (JJ eT (YY o653) ZZ)) (JJ o205 (JJ o333 (YY o589) ZZ) (JJ eT (YY o717) ZZ))) (JJ o109 (JJ eT (JJ o301 (YY o557) ZZ) (JJ o429 (YY o685) ZZ)) (JJ o237 (JJ eF (YY o621) ZZ) (JJ o493 (YY o749) ZZ)))) (JJ o61 (JJ eT (JJ o157 (JJ eT (YY o541) ZZ) (JJ o413 (YY eT) ZZ)) (JJ eF (JJ o349 (YY eT) ZZ) (JJ o477 (YY o733) ZZ))) (JJ o125 (JJ o189 (JJ eT (YY eT) ZZ) (JJ eT (YY eT) ZZ)) (JJ o253 (JJ o381 (YY eT) ZZ) (JJ eF (YY eF) ZZ)))))))) (JJ (c1_2 P) (JJ (b4 P) (JJ (b8 P) (JJ o16 (JJ o32 (JJ eF (JJ eT (JJ o256 (YY o512) (YY o768)) (JJ eF (YY o640) ZZ)) (JJ o192 (JJ eT (YY o576) ZZ) (JJ o448 (YY eT) ZZ))) (JJ eT (JJ eF (JJ o288 (YY o544) ZZ) (JJ eT (YY o672) ZZ)) (JJ o224 (JJ o352 (YY o608) ZZ) (JJ eT (YY eT) ZZ)))) (JJ o48 (JJ eF (JJ o144 (JJ o272 (YY o528) (YY o784)) (JJ eT (YY eF) ZZ)) (JJ eT (JJ o336 (YY eF) ZZ) (JJ eT (YY o720) ZZ))) (JJ o112 (JJ eT (JJ eF (YY o560) ZZ) (JJ o432 (YY eF) ZZ)) (JJ o240 (JJ o368 (YY o624) ZZ) (JJ o496 (YY o752) ZZ))))) (JJ o24 (JJ o40 (JJ eT (JJ eF (JJ eT (YY o520) (YY o776)) (JJ o392 (YY eT) ZZ)) (JJ o200 (JJ o328 (YY eT) ZZ) (JJ o456 (YY o712) ZZ))) (JJ o104 (JJ o168 (JJ eT (YY eF) ZZ) (JJ eF (YY eT) ZZ)) (JJ o232 (JJ eT (YY eF) ZZ) (JJ eF (YY eF) ZZ)))) (JJ eT (JJ o88 (JJ eT (JJ o280 (YY o536) ZZ) (JJ o408 (YY o664) ZZ)) (JJ eF (JJ o344 (YY o600) ZZ) (JJ o472 (YY o728) ZZ))) (JJ o120 (JJ o184 (JJ o312 (YY o568) ZZ) (JJ o440 (YY o696) ZZ)) (JJ eF (JJ eT (YY o632) ZZ) (JJ eT (YY eT) ZZ)))))) (JJ C5 (JJ o20 (JJ eF (JJ o68 (JJ o132 (JJ o260 (YY eF) (YY eF)) (JJ o388 (YY eT) ZZ)) (JJ o196 (JJ eT (YY eT) ZZ) (JJ o452 (YY eT) ZZ))) (JJ eT (JJ o164 (JJ eT (YY o548) ZZ) (JJ o420 (YY o676) ZZ)) (JJ eT (JJ o356 (YY o612) ZZ) (JJ o484 (YY o740) ZZ)))) (JJ eT (JJ o84 (JJ eT (JJ eF (YY o532) ZZ) (JJ eT (YY o660) ZZ)) (JJ o212 (JJ o340 (YY o596) ZZ) (JJ eT (YY o724) ZZ))) (JJ o116 (JJ eT (JJ o308 (YY o564) ZZ) (JJ o436 (YY o692) ZZ)) (JJ o244 (JJ eF (YY eF) ZZ) (JJ o500 (YY o756) ZZ))))) (JJ o28 (JJ o44 (JJ o76 (JJ o140 (JJ eT (YY o524) (YY o780)) (JJ o396 (YY o652) ZZ)) (JJ eT (JJ eF (YY o588) ZZ) (JJ o460 (YY eF) ZZ))) (JJ eF (JJ o172 (JJ o300 (YY o556) ZZ) (JJ o428 (YY o684) ZZ)) (JJ eF (JJ eT (YY o620) ZZ) (JJ o492 (YY o748) ZZ)))) (JJ o60 (JJ o92 (JJ o156 (JJ o284 (YY eF) ZZ) (JJ eT (YY o668) ZZ)) (JJ eT (JJ o348 (YY o604) ZZ) (JJ eF (YY eT) ZZ))) (JJ eT (JJ eF (JJ o316 (YY o572) ZZ) (JJ o444 (YY o700) ZZ)) (JJ o252 (JJ o380 (YY o636) ZZ) (JJ eT (YY eT) ZZ))))))) (JJ (b6 P) (JJ (b10 P) (JJ eT (JJ o34 (JJ eT (JJ o130 (JJ o258 (YY o514) (YY o770)) (JJ eT (YY eF) ZZ)) (JJ eT (JJ o322 (YY eF) ZZ) (JJ eF (YY o706) ZZ))) (JJ o98 (JJ eT (JJ eF (YY eT) ZZ) (JJ o418 (YY o674) ZZ)) (JJ o226 (JJ o354 (YY eT) ZZ) (JJ o482 (YY o738) ZZ)))) (JJ eF (JJ eT (JJ eF (JJ o274 (YY eF) ZZ) (JJ o402 (YY eT) ZZ)) (JJ o210 (JJ eT (YY eT) ZZ) (JJ o466 (YY eT) ZZ))) (JJ eT (JJ o178 (JJ eT (YY o562) ZZ) (JJ o434 (YY eT) ZZ)) (JJ eT (JJ o370 (YY o626) ZZ) (JJ o498 (YY o754) ZZ))))) (JJ o26 (JJ eT (JJ o74 (JJ eT (JJ o266 (YY eT) (YY eT)) (JJ o394 (YY o650) ZZ)) (JJ eF (JJ o330 (YY o586) ZZ) (JJ o458 (YY o714) ZZ))) (JJ o106 (JJ o170 (JJ o298 (YY eT) ZZ) (JJ eT (YY o682) ZZ)) (JJ o234 (JJ o362 (YY eT) ZZ) (JJ eT (YY eT) ZZ)))) (JJ o58 (JJ o90 (JJ o154 (JJ eT (YY o538) ZZ) (JJ eF (YY o666) ZZ)) (JJ o218 (JJ eF (YY o602) ZZ) (JJ o474 (YY eF) ZZ))) (JJ eF (JJ o186 (JJ o314 (YY eT) ZZ) (JJ eT (YY o698) ZZ)) (JJ eT (JJ o378 (YY eT) ZZ) (JJ o506 (YY o762) ZZ)))))) (JJ b14 (JJ eT (JJ eT (JJ o70 (JJ o134 (JJ eF (YY eT) (YY eT)) (JJ eT (YY o646) ZZ)) (JJ o198 (JJ o326 (YY o582) ZZ) (JJ eT (YY o710) ZZ))) (JJ o102 (JJ eT (JJ o294 (YY o550) ZZ) (JJ o422 (YY o678) ZZ)) (JJ o230 (JJ eF (YY o614) ZZ) (JJ o486 (YY o742) ZZ)))) (JJ o54 (JJ eT (JJ o150 (JJ eT (YY eT) ZZ) (JJ o406 (YY eT) ZZ)) (JJ o214 (JJ o342 (YY eT) ZZ) (JJ o470 (YY o726) ZZ))) (JJ o118 (JJ o182 (JJ o310 (YY eF) ZZ) (JJ eF (YY eT) ZZ)) (JJ o246 (JJ o374 (YY eT) ZZ) (JJ eF (YY eF) ZZ))))) (JJ (o30 P) (JJ o46 (JJ o78 (JJ o142 (JJ o270 (YY o526) (YY o782)) (JJ eF (YY o654) ZZ)) (JJ o206 (JJ eT (YY o590) ZZ) (JJ eF (YY eT) ZZ))) (JJ eT (JJ eF (JJ o302 (YY eT) ZZ) (JJ eT (YY o686) ZZ)) (JJ eT (JJ o366 (YY eT) ZZ) (JJ eT (YY eT) ZZ)))) (JJ o62 (JJ eF (JJ o158 (JJ o286 (YY eT) ZZ) (JJ o414 (YY eF) ZZ)) (JJ o222 (JJ eT (YY eF) ZZ) (JJ o478 (YY o734) ZZ))) (JJ o126 (JJ eT (JJ eF (YY o574) ZZ) (JJ o446 (YY eF) ZZ)) (JJ eT (JJ o382 (YY o638) ZZ) (JJ o510 (YY o766) ZZ))))))))
noncomputable def S5(w:World)(os:OsState):SharedT:=⟨T5 w.params,785,lf,#[],{ },1228,os⟩
noncomputable def q5:Pos:={ line:=627,col:=0,endLine:=629,endCol:=73 }
noncomputable def Z5:List Stmt:=(bd.drop 111).take 29
theorem run5(w:World)(os:OsState):segRunT treeTable pw w m0 an 1 792 (S4 w os) (piecesOf Z5 ev cE q4 tf)=some (.next,S5 w os,cE,q5):=by(rw[PySem.W.Fast.te10110043849684766642,PySem.W.Fast.te14364793385576792824];kernel_rfl)
noncomputable def M6(P:Params):List DictEntry:=catE (M5 P) [de P "pseudo" 1243 (.ref 791),de P "divided" 1251 (.ref 796),de P "full_rest" 1257 (.ref 801),de P "row_resultant" 1271 (.ref 808),de P "resultant" 1283 (.ref 815),de P "root_bound" 1291 (.ref 820),de P "first_differences" 1299 (.ref 825),de P "zeros_on" 1311 (.ref 832),de P "dispersions" 1317 (.ref 837),de P "shape" 1326 (.ref 844),de P "need_shape" 1334 (.ref 851),de P "copied" 1340 (.ref 856),de P "swap_rows" 1349 (.ref 863),de P "take_off" 1355 (.ref 868),de P "echelon" 1361 (.ref 873),de P "null_base" 1377 (.ref 880),de P "solve_system" 1383 (.ref 885),de P "moved" 1393 (.ref 892),de P "parted" 1407 (.ref 899),de P "coefficient_at" 1415 (.ref 906),de P "most_degree" 1427 (.ref 913),de P "difference_of" 1436 (.ref 920),de P "key_solution" 1442 (.ref 925),de P "trimmed" 1450 (.ref 932)]
noncomputable def G6(P:Params):Obj:=oD (de P "__name__" 165 (vs "cas.gosper" 1384)::M6 P) 160
noncomputable def L6:List Value:=catV L5 [.int 630 0,.int 0 0,.ref 790,.int 642 0,.int 0 0,.ref 795,.int 644 0,.int 0 0,.ref 800,.int 648 0,.int 0 0,.ref 807,.int 663 0,.int 0 0,.ref 814,.int 674 0,.int 0 0,.ref 819,.int 678 0,.int 0 0,.ref 824,.int 684 0,.int 0 0,.ref 831,.int 692 0,.int 0 0,.ref 836,.int 699 0,.int 0 0,.ref 843,.int 701 0,.int 0 0,.ref 850,.int 704 0,.int 0 0,.ref 855,.int 706 0,.int 0 0,.ref 862,.int 708 0,.int 0 0,.ref 867,.int 710 0,.int 0 0,.ref 872,.int 726 0,.int 0 0,.ref 879,.int 738 0,.int 0 0,.ref 884,.int 749 0,.int 0 0,.ref 891,.int 751 0,.int 0 0,.ref 898,.int 760 0,.int 0 0,.ref 905,.int 762 0,.int 0 0,.ref 912,.int 769 0,.int 0 0,.ref 919,.int 771 0,.int 0 0,.ref 924,.int 782 0,.int 0 0,.ref 931]
noncomputable def C6:Obj:=oF L6
noncomputable def o787:=oT (nv 1231 ["a","b","many","rest","found","left","first","number","power","more"])
noncomputable def o789:=oD0 140 "pseudo"
noncomputable def o790:=oK "pseudo" 1228 630 2 3 785 786 .none (.ref 787) (.ref 788) 789 1241
noncomputable def o791:=oF1 140 "pseudo" "cas.zdiv" 1219 790
noncomputable def o794:=oD0 142 "divided"
noncomputable def o795:=oK "divided" 1246 642 2 3 792 793 .none .none .none 794 1249
noncomputable def o796:=oF1 142 "divided" "cas.resultants" 1244 795
noncomputable def o799:=oD0 143 "full_rest"
noncomputable def o800:=oK "full_rest" 1252 644 2 3 797 798 .none .none .none 799 1255
noncomputable def o801:=oF1 143 "full_rest" "cas.resultants" 1244 800
noncomputable def o804:=oT (nv 1261 ["a","b","sign","g","h","gap","rest","many"])
noncomputable def o806:=oD0 144 "row_resultant"
noncomputable def o807:=oK "row_resultant" 1258 648 3 3 802 803 .none (.ref 804) (.ref 805) 806 1269
noncomputable def o808:=oF1 144 "row_resultant" "cas.resultants" 1244 807
noncomputable def o811:=oT (nv 1275 ["a","b","sign","one","other","shared"])
noncomputable def o813:=oD0 145 "resultant"
noncomputable def o814:=oK "resultant" 1272 663 2 3 809 810 .none (.ref 811) (.ref 812) 813 1281
noncomputable def o815:=oF1 145 "resultant" "cas.resultants" 1244 814
noncomputable def o818:=oD0 147 "root_bound"
noncomputable def o819:=oK "root_bound" 1286 674 1 3 816 817 .none .none .none 818 1289
noncomputable def o820:=oF1 147 "root_bound" "cas.sturm" 1284 819
noncomputable def o823:=oD0 149 "first_differences"
noncomputable def o824:=oK "first_differences" 1294 678 1 3 821 822 .none .none .none 823 1297
noncomputable def o825:=oF1 149 "first_differences" "cas.dispersion" 1292 824
noncomputable def o828:=oT (nv 1303 ["differences","last","row","found","place","at"])
noncomputable def o830:=oD0 150 "zeros_on"
noncomputable def o831:=oK "zeros_on" 1300 684 2 3 826 827 .none (.ref 828) (.ref 829) 830 1309
noncomputable def o832:=oF1 150 "zeros_on" "cas.dispersion" 1292 831
noncomputable def o835:=oD0 151 "dispersions"
noncomputable def o836:=oK "dispersions" 1312 692 2 3 833 834 .none .none .none 835 1315
noncomputable def o837:=oF1 151 "dispersions" "cas.dispersion" 1292 836
noncomputable def o840:=oT (nv 1323 ["a"])
noncomputable def o842:=oD0 153 "shape"
noncomputable def o843:=oK "shape" 1320 699 1 3 838 839 .none (.ref 840) (.ref 841) 842 1324
noncomputable def o844:=oF1 153 "shape" "cas.mat" 1318 843
noncomputable def o847:=oT (nv 1330 ["is_right","text"])
noncomputable def o849:=oD0 154 "need_shape"
noncomputable def o850:=oK "need_shape" 1327 701 2 3 845 846 .none (.ref 847) (.ref 848) 849 1332
noncomputable def o851:=oF1 154 "need_shape" "cas.mat" 1318 850
noncomputable def o854:=oD0 155 "copied"
noncomputable def o855:=oK "copied" 1335 704 1 3 852 853 .none .none .none 854 1338
noncomputable def o856:=oF1 155 "copied" "cas.mat" 1318 855
noncomputable def o859:=oT (nv 1344 ["a","one","other"])
noncomputable def o861:=oD0 156 "swap_rows"
noncomputable def o862:=oK "swap_rows" 1341 706 3 3 857 858 .none (.ref 859) (.ref 860) 861 1347
noncomputable def o863:=oF1 156 "swap_rows" "cas.mat" 1318 862
noncomputable def o866:=oD0 157 "take_off"
noncomputable def o867:=oK "take_off" 1350 708 4 3 864 865 .none .none .none 866 1353
noncomputable def o868:=oF1 157 "take_off" "cas.mat" 1318 867
noncomputable def o871:=oD0 158 "echelon"
noncomputable def o872:=oK "echelon" 1356 710 1 3 869 870 .none .none .none 871 1359
noncomputable def o873:=oF1 158 "echelon" "cas.mat" 1318 872
noncomputable def o876:=oT (nv 1367 ["a","reduced","pivots","found","column","one","at","spot"])
noncomputable def o878:=oD0 160 "null_base"
noncomputable def o879:=oK "null_base" 1364 726 1 3 874 875 .none (.ref 876) (.ref 877) 878 1375
noncomputable def o880:=oF1 160 "null_base" "cas.linear" 1362 879
noncomputable def o883:=oD0 161 "solve_system"
noncomputable def o884:=oK "solve_system" 1378 738 2 3 881 882 .none .none .none 883 1381
noncomputable def o885:=oF1 161 "solve_system" "cas.linear" 1362 884
noncomputable def o888:=oT (nv 1389 ["p","h"])
noncomputable def o890:=oD0 163 "moved"
noncomputable def o891:=oK "moved" 1386 749 2 3 886 887 .none (.ref 888) (.ref 889) 890 1391
noncomputable def o892:=oF1 163 "moved" "cas.gosper" 1384 891
noncomputable def o895:=oT (nv 1397 ["top","bottom","a","b","c","h","g","step"])
noncomputable def o897:=oD0 164 "parted"
noncomputable def o898:=oK "parted" 1394 751 2 3 893 894 .none (.ref 895) (.ref 896) 897 1405
noncomputable def o899:=oF1 164 "parted" "cas.gosper" 1384 898
noncomputable def o902:=oT (nv 1411 ["p","power"])
noncomputable def o904:=oD0 165 "coefficient_at"
noncomputable def o905:=oK "coefficient_at" 1408 760 2 3 900 901 .none (.ref 902) (.ref 903) 904 1413
noncomputable def o906:=oF1 165 "coefficient_at" "cas.gosper" 1384 905
noncomputable def o909:=oT (nv 1419 ["a","b","c","high","least","gap"])
noncomputable def o911:=oD0 166 "most_degree"
noncomputable def o912:=oK "most_degree" 1416 762 3 3 907 908 .none (.ref 909) (.ref 910) 911 1425
noncomputable def o913:=oF1 166 "most_degree" "cas.gosper" 1384 912
noncomputable def o916:=oT (nv 1431 ["a","b","x"])
noncomputable def o918:=oD0 167 "difference_of"
noncomputable def o919:=oK "difference_of" 1428 769 3 3 914 915 .none (.ref 916) (.ref 917) 918 1434
noncomputable def o920:=oF1 167 "difference_of" "cas.gosper" 1384 919
noncomputable def o923:=oD0 168 "key_solution"
noncomputable def o924:=oK "key_solution" 1437 771 3 3 921 922 .none .none .none 923 1440
noncomputable def o925:=oF1 168 "key_solution" "cas.gosper" 1384 924
noncomputable def o928:=oT (nv 1446 ["p","size"])
noncomputable def o930:=oD0 169 "trimmed"
noncomputable def o931:=oK "trimmed" 1443 782 1 3 926 927 .none (.ref 928) (.ref 929) 930 1448
noncomputable def o932:=oF1 169 "trimmed" "cas.gosper" 1384 931
noncomputable def T6(P:Params):BT:=JJ (b0 P) (JJ (b1 P) (JJ (G6 P) (JJ (b7 P) (JJ o15 (JJ o31 (JJ eT (JJ o127 (JJ eF (YY eT) (YY eT)) (JJ eT (YY o639) (YY o895))) (JJ o191 (JJ o319 (YY o575) (YY o831)) (JJ o447 (YY o703) ZZ))) (JJ o95 (JJ eT (JJ o287 (YY o543) (YY o799)) (JJ o415 (YY o671) (YY eF))) (JJ eT (JJ eF (YY o607) (YY o863)) (JJ o479 (YY o735) ZZ)))) (JJ o47 (JJ eT (JJ o143 (JJ eT (YY o527) (YY o783)) (JJ o399 (YY eT) (YY o911))) (JJ o207 (JJ o335 (YY eT) (YY o847)) (JJ o463 (YY o719) ZZ))) (JJ o111 (JJ o175 (JJ eT (YY eF) (YY o815)) (JJ eF (YY eT) ZZ)) (JJ o239 (JJ eT (YY eF) (YY o879)) (JJ eF (YY eF) ZZ))))) (JJ eF (JJ o39 (JJ o71 (JJ eT (JJ o263 (YY o519) (YY o775)) (JJ eF (YY o647) (YY eT))) (JJ o199 (JJ eT (YY o583) (YY eF)) (JJ eF (YY eT) ZZ))) (JJ eT (JJ eF (JJ o295 (YY eT) (YY o807)) (JJ eT (YY o679) ZZ)) (JJ eT (JJ o359 (YY eT) (YY o871)) (JJ eT (YY eT) ZZ)))) (JJ o55 (JJ eF (JJ o151 (JJ o279 (YY eF) (YY o791)) (JJ o407 (YY eF) (YY o919))) (JJ eT (JJ o343 (YY eF) (YY o855)) (JJ eT (YY o727) ZZ))) (JJ o119 (JJ eT (JJ o311 (YY o567) (YY o823)) (JJ o439 (YY eF) ZZ)) (JJ eT (JJ o375 (YY o631) (YY eF)) (JJ o503 (YY o759) ZZ)))))) (JJ eT (JJ o19 (JJ eT (JJ o67 (JJ eT (JJ o259 (YY eT) (YY eT)) (JJ o387 (YY o643) (YY o899))) (JJ eF (JJ o323 (YY o579) (YY o835)) (JJ o451 (YY o707) ZZ))) (JJ o99 (JJ o163 (JJ o291 (YY eF) (YY eF)) (JJ eT (YY o675) (YY o931))) (JJ (o227 P) (JJ o355 (YY eF) (YY o867)) (JJ eT (YY eT) ZZ)))) (JJ o51 (JJ o83 (JJ o147 (JJ eT (YY o531) (YY o787)) (JJ o403 (YY o659) (YY eF))) (JJ eT (JJ eF (YY o595) (YY o851)) (JJ o467 (YY eF) ZZ))) (JJ eF (JJ o179 (JJ o307 (YY o563) (YY o819)) (JJ o435 (YY o691) ZZ)) (JJ eF (JJ eT (YY eT) (YY o883)) (JJ o499 (YY o755) ZZ))))) (JJ o27 (JJ eF (JJ eT (JJ o139 (JJ o267 (YY eF) (YY eF)) (JJ o395 (YY eT) (YY eT))) (JJ o203 (JJ eT (YY eT) (YY o843)) (JJ o459 (YY eT) ZZ))) (JJ eT (JJ o171 (JJ eT (YY o555) (YY o811)) (JJ o427 (YY eT) ZZ)) (JJ eT (JJ o363 (YY o619) (YY eF)) (JJ o491 (YY o747) ZZ)))) (JJ eT (JJ o91 (JJ eT (JJ eF (YY eT) (YY o795)) (JJ o411 (YY o667) (YY o923))) (JJ o219 (JJ o347 (YY o603) (YY o859)) (JJ eT (YY o731) ZZ))) (JJ o123 (JJ eT (JJ o315 (YY eF) (YY eF)) (JJ eF (YY o699) ZZ)) (JJ o251 (JJ eT (YY eF) (YY o891)) (JJ o507 (YY o763) ZZ))))))) (JJ (b5 P) (JJ (b9 P) (JJ (o17 P) (JJ o33 (JJ o65 (JJ eF (JJ eT (YY o513) (YY o769)) (JJ o385 (YY eT) (YY o897))) (JJ o193 (JJ o321 (YY eT) (YY eT)) (JJ eT (YY o705) ZZ))) (JJ o97 (JJ o161 (JJ eT (YY o545) (YY o801)) (JJ eF (YY o673) (YY eT))) (JJ o225 (JJ eT (YY o609) (YY eF)) (JJ eF (YY eF) ZZ)))) (JJ eT (JJ o81 (JJ eT (JJ o273 (YY eT) (YY eT)) (JJ o401 (YY o657) (YY o913))) (JJ eF (JJ o337 (YY o593) (YY o849)) (JJ o465 (YY o721) ZZ))) (JJ o113 (JJ o177 (JJ o305 (YY eT) (YY eF)) (JJ eT (YY o689) ZZ)) (JJ o241 (JJ o369 (YY o625) (YY eT)) (JJ eT (YY eT) ZZ))))) (JJ eT (JJ o41 (JJ eF (JJ o137 (JJ o265 (YY o521) (YY o777)) (JJ eT (YY eF) (YY o905))) (JJ eT (JJ o329 (YY eF) (YY eT)) (JJ eT (YY o713) ZZ))) (JJ o105 (JJ eT (JJ eF (YY o553) (YY eT)) (JJ o425 (YY eF) ZZ)) (JJ o233 (JJ o361 (YY o617) (YY o873)) (JJ o489 (YY o745) ZZ)))) (JJ eF (JJ eT (JJ eF (JJ o281 (YY o537) (YY eF)) (JJ eT (YY eT) (YY eT))) (JJ o217 (JJ eT (YY eT) (YY eT)) (JJ o473 (YY eT) ZZ))) (JJ eT (JJ o185 (JJ o313 (YY o569) (YY o825)) (JJ o441 (YY eT) ZZ)) (JJ o249 (JJ eF (YY o633) (YY eT)) (JJ o505 (YY o761) ZZ)))))) (JJ b13 (JJ o21 (JJ o37 (JJ o69 (JJ o133 (JJ eT (YY o517) (YY o773)) (JJ o389 (YY o645) (YY eF))) (JJ eT (JJ eF (YY o581) (YY o837)) (JJ o453 (YY eF) ZZ))) (JJ eF (JJ o165 (JJ o293 (YY o549) (YY eT)) (JJ o421 (YY o677) ZZ)) (JJ eF (JJ eT (YY o613) (YY eT)) (JJ o485 (YY o741) ZZ)))) (JJ o53 (JJ o85 (JJ o149 (JJ o277 (YY o533) (YY o789)) (JJ eF (YY o661) (YY eT))) (JJ o213 (JJ eT (YY o597) (YY eF)) (JJ eF (YY eT) ZZ))) (JJ eT (JJ eF (JJ o309 (YY eT) (YY eT)) (JJ eT (YY o693) ZZ)) (JJ o245 (JJ o373 (YY o629) (YY o885)) (JJ eT (YY eT) ZZ))))) (JJ o29 (JJ eT (JJ o77 (JJ o141 (JJ eF (YY eT) (YY eT)) (JJ eT (YY o653) (YY o909))) (JJ o205 (JJ o333 (YY o589) (YY eT)) (JJ eT (YY o717) ZZ))) (JJ o109 (JJ eT (JJ o301 (YY o557) (YY o813)) (JJ o429 (YY o685) ZZ)) (JJ o237 (JJ eF (YY o621) (YY eT)) (JJ o493 (YY o749) ZZ)))) (JJ o61 (JJ eT (JJ o157 (JJ eT (YY o541) (YY eT)) (JJ o413 (YY eT) (YY o925))) (JJ eF (JJ o349 (YY eT) (YY o861)) (JJ o477 (YY o733) ZZ))) (JJ o125 (JJ o189 (JJ eT (YY eT) (YY eT)) (JJ eT (YY eT) ZZ)) (JJ o253 (JJ o381 (YY eT) (YY eT)) (JJ eF (YY eF) ZZ)))))))) (JJ (c1_2 P) (JJ (b4 P) (JJ (b8 P) (JJ o16 (JJ o32 (JJ eF (JJ eT (JJ o256 (YY o512) (YY o768)) (JJ eF (YY o640) (YY eT))) (JJ o192 (JJ eT (YY o576) (YY o832)) (JJ o448 (YY eT) ZZ))) (JJ eT (JJ eF (JJ o288 (YY o544) (YY o800)) (JJ eT (YY o672) (YY o928))) (JJ o224 (JJ o352 (YY o608) (YY eT)) (JJ eT (YY eT) ZZ)))) (JJ o48 (JJ eF (JJ o144 (JJ o272 (YY o528) (YY o784)) (JJ eT (YY eF) (YY o912))) (JJ eT (JJ o336 (YY eF) (YY eT)) (JJ eT (YY o720) ZZ))) (JJ o112 (JJ eT (JJ eF (YY o560) (YY eT)) (JJ o432 (YY eF) ZZ)) (JJ o240 (JJ o368 (YY o624) (YY o880)) (JJ o496 (YY o752) ZZ))))) (JJ o24 (JJ o40 (JJ eT (JJ eF (JJ eT (YY o520) (YY o776)) (JJ o392 (YY eT) (YY o904))) (JJ o200 (JJ o328 (YY eT) (YY o840)) (JJ o456 (YY o712) ZZ))) (JJ o104 (JJ o168 (JJ eT (YY eF) (YY o808)) (JJ eF (YY eT) ZZ)) (JJ o232 (JJ eT (YY eF) (YY o872)) (JJ eF (YY eF) ZZ)))) (JJ eT (JJ o88 (JJ eT (JJ o280 (YY o536) (YY eT)) (JJ o408 (YY o664) (YY o920))) (JJ eF (JJ o344 (YY o600) (YY o856)) (JJ o472 (YY o728) ZZ))) (JJ o120 (JJ o184 (JJ o312 (YY o568) (YY o824)) (JJ o440 (YY o696) ZZ)) (JJ eF (JJ eT (YY o632) (YY o888)) (JJ eT (YY eT) ZZ)))))) (JJ C6 (JJ o20 (JJ eF (JJ o68 (JJ o132 (JJ o260 (YY eF) (YY eF)) (JJ o388 (YY eT) (YY eT))) (JJ o196 (JJ eT (YY eT) (YY o836)) (JJ o452 (YY eT) ZZ))) (JJ eT (JJ o164 (JJ eT (YY o548) (YY o804)) (JJ o420 (YY o676) (YY o932))) (JJ eT (JJ o356 (YY o612) (YY o868)) (JJ o484 (YY o740) ZZ)))) (JJ eT (JJ o84 (JJ eT (JJ eF (YY o532) (YY eT)) (JJ eT (YY o660) (YY o916))) (JJ o212 (JJ o340 (YY o596) (YY eT)) (JJ eT (YY o724) ZZ))) (JJ o116 (JJ eT (JJ o308 (YY o564) (YY o820)) (JJ o436 (YY o692) ZZ)) (JJ o244 (JJ eF (YY eF) (YY o884)) (JJ o500 (YY o756) ZZ))))) (JJ o28 (JJ o44 (JJ o76 (JJ o140 (JJ eT (YY o524) (YY o780)) (JJ o396 (YY o652) (YY eF))) (JJ eT (JJ eF (YY o588) (YY o844)) (JJ o460 (YY eF) ZZ))) (JJ eF (JJ o172 (JJ o300 (YY o556) (YY eT)) (JJ o428 (YY o684) ZZ)) (JJ eF (JJ eT (YY o620) (YY o876)) (JJ o492 (YY o748) ZZ)))) (JJ o60 (JJ o92 (JJ o156 (JJ o284 (YY eF) (YY o796)) (JJ eT (YY o668) (YY o924))) (JJ eT (JJ o348 (YY o604) (YY eT)) (JJ eF (YY eT) ZZ))) (JJ eT (JJ eF (JJ o316 (YY o572) (YY o828)) (JJ o444 (YY o700) ZZ)) (JJ o252 (JJ o380 (YY o636) (YY o892)) (JJ eT (YY eT) ZZ))))))) (JJ (b6 P) (JJ (b10 P) (JJ eT (JJ o34 (JJ eT (JJ o130 (JJ o258 (YY o514) (YY o770)) (JJ eT (YY eF) (YY o898))) (JJ eT (JJ o322 (YY eF) (YY eF)) (JJ eF (YY o706) ZZ))) (JJ o98 (JJ eT (JJ eF (YY eT) (YY eT)) (JJ o418 (YY o674) (YY o930))) (JJ o226 (JJ o354 (YY eT) (YY o866)) (JJ o482 (YY o738) ZZ)))) (JJ eF (JJ eT (JJ eF (JJ o274 (YY eF) (YY eF)) (JJ o402 (YY eT) (YY eT))) (JJ o210 (JJ eT (YY eT) (YY o850)) (JJ o466 (YY eT) ZZ))) (JJ eT (JJ o178 (JJ eT (YY o562) (YY o818)) (JJ o434 (YY eT) ZZ)) (JJ eT (JJ o370 (YY o626) (YY eF)) (JJ o498 (YY o754) ZZ))))) (JJ o26 (JJ eT (JJ o74 (JJ eT (JJ o266 (YY eT) (YY eT)) (JJ o394 (YY o650) (YY o906))) (JJ eF (JJ o330 (YY o586) (YY o842)) (JJ o458 (YY o714) ZZ))) (JJ o106 (JJ o170 (JJ o298 (YY eT) (YY eF)) (JJ eT (YY o682) ZZ)) (JJ o234 (JJ o362 (YY eT) (YY eT)) (JJ eT (YY eT) ZZ)))) (JJ o58 (JJ o90 (JJ o154 (JJ eT (YY o538) (YY o794)) (JJ eF (YY o666) (YY eF))) (JJ o218 (JJ eF (YY o602) (YY eF)) (JJ o474 (YY eF) ZZ))) (JJ eF (JJ o186 (JJ o314 (YY eT) (YY eT)) (JJ eT (YY o698) ZZ)) (JJ eT (JJ o378 (YY eT) (YY o890)) (JJ o506 (YY o762) ZZ)))))) (JJ b14 (JJ eT (JJ eT (JJ o70 (JJ o134 (JJ eF (YY eT) (YY eT)) (JJ eT (YY o646) (YY o902))) (JJ o198 (JJ o326 (YY o582) (YY eT)) (JJ eT (YY o710) ZZ))) (JJ o102 (JJ eT (JJ o294 (YY o550) (YY o806)) (JJ o422 (YY o678) ZZ)) (JJ o230 (JJ eF (YY o614) (YY eF)) (JJ o486 (YY o742) ZZ)))) (JJ o54 (JJ eT (JJ o150 (JJ eT (YY eT) (YY o790)) (JJ o406 (YY eT) (YY o918))) (JJ o214 (JJ o342 (YY eT) (YY o854)) (JJ o470 (YY o726) ZZ))) (JJ o118 (JJ o182 (JJ o310 (YY eF) (YY eF)) (JJ eF (YY eT) ZZ)) (JJ o246 (JJ o374 (YY eT) (YY eT)) (JJ eF (YY eF) ZZ))))) (JJ (o30 P) (JJ o46 (JJ o78 (JJ o142 (JJ o270 (YY o526) (YY o782)) (JJ eF (YY o654) (YY eT))) (JJ o206 (JJ eT (YY o590) (YY eF)) (JJ eF (YY eT) ZZ))) (JJ eT (JJ eF (JJ o302 (YY eT) (YY o814)) (JJ eT (YY o686) ZZ)) (JJ eT (JJ o366 (YY eT) (YY o878)) (JJ eT (YY eT) ZZ)))) (JJ o62 (JJ eF (JJ o158 (JJ o286 (YY eT) (YY eF)) (JJ o414 (YY eF) (YY eT))) (JJ o222 (JJ eT (YY eF) (YY o862)) (JJ o478 (YY o734) ZZ))) (JJ o126 (JJ eT (JJ eF (YY o574) (YY o830)) (JJ o446 (YY eF) ZZ)) (JJ eT (JJ o382 (YY o638) (YY eF)) (JJ o510 (YY o766) ZZ))))))))
noncomputable def S6(w:World)(os:OsState):SharedT:=⟨T6 w.params,933,lf,#[],{ },1451,os⟩
noncomputable def q6:Pos:={ line:=782,col:=0,endLine:=786,endCol:=19 }
noncomputable def Z6:List Stmt:=(bd.drop 140).take 30
theorem run6(w:World)(os:OsState):segRunT treeTable pw w m0 an 1 774 (S5 w os) (piecesOf Z6 ev cE q5 tf)=some (.next,S6 w os,cE,q6):=by(rw[PySem.W.Fast.te10110043849684766642,PySem.W.Fast.te14364793385576792824];kernel_rfl)
noncomputable def M7(P:Params):List DictEntry:=catE (M6 P) [de P "gosper" 1462 (.ref 939),de P "power_in" 1477 (.ref 946),de P "collect" 1483 (.ref 951),de P "linear_parts" 1495 (.ref 958),de P "rational_ratio" 1502 (.ref 965),de P "power_ratio" 1514 (.ref 972),de P "factorial_ratio" 1524 (.ref 979),de P "ratio_of" 1536 (.ref 986),de P "polynomial_form" 1542 (.ref 991),de P "summed_form" 1557 (.ref 998),de P "indefinite_sum" 1563 (.ref 1003),de P "_law_n" 1568 (.ref 1004),de P "_law_take" 1576 (.ref 1011),de P "_law_value" 1589 (.ref 1018),de P "law" 1595 (.ref 1023)]
noncomputable def G7(P:Params):Obj:=oD (de P "__name__" 165 (vs "law_pq0209_01" 1564)::M7 P) 175
noncomputable def L7:List Value:=catV L6 [.int 787 0,.int 0 0,.ref 938,.int 793 0,.int 0 0,.ref 945,.int 804 0,.int 0 0,.ref 950,.int 813 0,.int 0 0,.ref 957,.int 819 0,.int 0 0,.ref 964,.int 821 0,.int 0 0,.ref 971,.int 830 0,.int 0 0,.ref 978,.int 838 0,.int 0 0,.ref 985,.int 857 0,.int 0 0,.ref 990,.int 862 0,.int 0 0,.ref 997,.int 878 0,.int 0 0,.ref 1002,.int 887 0,.int 0 0,.ref 1010,.int 892 0,.int 0 0,.ref 1017,.int 908 0,.int 0 0,.ref 1022]
noncomputable def C7:Obj:=oF L7
noncomputable def o935:=oT (nv 1454 ["ratio","a","b","c","back","x"])
noncomputable def o937:=oD0 170 "gosper"
noncomputable def o938:=oK "gosper" 1451 787 1 3 933 934 .none (.ref 935) (.ref 936) 937 1460
noncomputable def o939:=oF1 170 "gosper" "cas.gosper" 1384 938
noncomputable def o942:=oT (nv 1468 ["t","name","many","rest","part","base","exponent"])
noncomputable def o944:=oD0 172 "power_in"
noncomputable def o945:=oK "power_in" 1465 793 2 3 940 941 .none (.ref 942) (.ref 943) 944 1475
noncomputable def o946:=oF1 172 "power_in" "cas.subst" 1463 945
noncomputable def o949:=oD0 173 "collect"
noncomputable def o950:=oK "collect" 1478 804 2 3 947 948 .none .none .none 949 1481
noncomputable def o951:=oF1 173 "collect" "cas.subst" 1463 950
noncomputable def o954:=oT (nv 1489 ["t","name","pairs","rest"])
noncomputable def o956:=oD0 175 "linear_parts"
noncomputable def o957:=oK "linear_parts" 1486 813 2 3 952 953 .none (.ref 954) (.ref 955) 956 1493
noncomputable def o958:=oF1 175 "linear_parts" "cas.sums" 1484 957
noncomputable def o961:=oT (nv 1499 ["f"])
noncomputable def o963:=oD0 176 "rational_ratio"
noncomputable def o964:=oK "rational_ratio" 1496 819 1 3 959 960 .none (.ref 961) (.ref 962) 963 1500
noncomputable def o965:=oF1 176 "rational_ratio" "cas.sums" 1484 964
noncomputable def o968:=oT (nv 1506 ["t","name","base","exponent","found","told"])
noncomputable def o970:=oD0 177 "power_ratio"
noncomputable def o971:=oK "power_ratio" 1503 821 2 3 966 967 .none (.ref 968) (.ref 969) 970 1512
noncomputable def o972:=oF1 177 "power_ratio" "cas.sums" 1484 971
noncomputable def o975:=oT (nv 1518 ["arg","name","told","below"])
noncomputable def o977:=oD0 178 "factorial_ratio"
noncomputable def o978:=oK "factorial_ratio" 1515 830 2 3 973 974 .none (.ref 975) (.ref 976) 977 1522
noncomputable def o979:=oF1 178 "factorial_ratio" "cas.sums" 1484 978
noncomputable def o982:=oT (nv 1528 ["t","name","f","found","part","one"])
noncomputable def o984:=oD0 179 "ratio_of"
noncomputable def o985:=oK "ratio_of" 1525 838 2 3 980 981 .none (.ref 982) (.ref 983) 984 1534
noncomputable def o986:=oF1 179 "ratio_of" "cas.sums" 1484 985
noncomputable def o989:=oD0 180 "polynomial_form"
noncomputable def o990:=oK "polynomial_form" 1537 857 2 3 987 988 .none .none .none 989 1540
noncomputable def o991:=oF1 180 "polynomial_form" "cas.sums" 1484 990
noncomputable def o994:=oT (nv 1546 ["t","name","found","ratio","certificate","rational","others","part","one"])
noncomputable def o996:=oD0 181 "summed_form"
noncomputable def o997:=oK "summed_form" 1543 862 2 3 992 993 .none (.ref 994) (.ref 995) 996 1555
noncomputable def o998:=oF1 181 "summed_form" "cas.sums" 1484 997
noncomputable def o1001:=oD0 182 "indefinite_sum"
noncomputable def o1002:=oK "indefinite_sum" 1558 878 2 3 999 1000 .none .none .none 1001 1561
noncomputable def o1003:=oF1 182 "indefinite_sum" "cas.sums" 1484 1002
noncomputable def o1004:=oT (nv 1566 ["sym","n"])
noncomputable def o1007:=oT (nv 1572 ["box","many"])
noncomputable def o1009:=oD0 185 "_law_take"
noncomputable def o1010:=oK "_law_take" 1569 887 2 3 1005 1006 .none (.ref 1007) (.ref 1008) 1009 1574
noncomputable def o1011:=oF1 185 "_law_take" "law_pq0209_01" 1564 1010
noncomputable def o1014:=oT (nv 1580 ["t","n","base","many","found","part","one"])
noncomputable def o1016:=oD0 186 "_law_value"
noncomputable def o1017:=oK "_law_value" 1577 892 2 3 1012 1013 .none (.ref 1014) (.ref 1015) 1016 1587
noncomputable def o1018:=oF1 186 "_law_value" "law_pq0209_01" 1564 1017
noncomputable def o1021:=oD0 187 "law"
noncomputable def o1022:=oK "law" 1590 908 1 3 1019 1020 .none .none .none 1021 1593
noncomputable def o1023:=oF1 187 "law" "law_pq0209_01" 1564 1022
noncomputable def T7(P:Params):BT:=JJ (b0 P) (JJ (b1 P) (JJ (G7 P) (JJ (b7 P) (JJ o15 (JJ o31 (JJ eT (JJ o127 (JJ eF (JJ eT (YY o1023) ZZ) (YY eT)) (JJ eT (YY o639) (YY o895))) (JJ o191 (JJ o319 (YY o575) (YY o831)) (JJ o447 (YY o703) (YY eT)))) (JJ o95 (JJ eT (JJ o287 (YY o543) (YY o799)) (JJ o415 (YY o671) (YY eF))) (JJ eT (JJ eF (YY o607) (YY o863)) (JJ o479 (YY o735) (YY o991))))) (JJ o47 (JJ eT (JJ o143 (JJ eT (YY o527) (YY o783)) (JJ o399 (YY eT) (YY o911))) (JJ o207 (JJ o335 (YY eT) (YY o847)) (JJ o463 (YY o719) (YY o975)))) (JJ o111 (JJ o175 (JJ eT (YY eF) (YY o815)) (JJ eF (YY eT) (YY eT))) (JJ o239 (JJ eT (YY eF) (YY o879)) (JJ eF (YY eF) (YY o1007)))))) (JJ eF (JJ o39 (JJ o71 (JJ eT (JJ o263 (YY o519) (YY o775)) (JJ eF (YY o647) (YY eT))) (JJ o199 (JJ eT (YY o583) (YY eF)) (JJ eF (YY eT) (YY eF)))) (JJ eT (JJ eF (JJ o295 (YY eT) (YY o807)) (JJ eT (YY o679) (YY o935))) (JJ eT (JJ o359 (YY eT) (YY o871)) (JJ eT (YY eT) (YY eT))))) (JJ o55 (JJ eF (JJ o151 (JJ o279 (YY eF) (YY o791)) (JJ o407 (YY eF) (YY o919))) (JJ eT (JJ o343 (YY eF) (YY o855)) (JJ eT (YY o727) (YY eT)))) (JJ o119 (JJ eT (JJ o311 (YY o567) (YY o823)) (JJ o439 (YY eF) (YY o951))) (JJ eT (JJ o375 (YY o631) (YY eF)) (JJ o503 (YY o759) (YY eT))))))) (JJ eT (JJ o19 (JJ eT (JJ o67 (JJ eT (JJ o259 (YY eT) (YY eT)) (JJ o387 (YY o643) (YY o899))) (JJ eF (JJ o323 (YY o579) (YY o835)) (JJ o451 (YY o707) (YY o963)))) (JJ o99 (JJ o163 (JJ o291 (YY eF) (YY eF)) (JJ eT (YY o675) (YY o931))) (JJ (o227 P) (JJ o355 (YY eF) (YY o867)) (JJ eT (YY eT) (YY eT))))) (JJ o51 (JJ o83 (JJ o147 (JJ eT (YY o531) (YY o787)) (JJ o403 (YY o659) (YY eF))) (JJ eT (JJ eF (YY o595) (YY o851)) (JJ o467 (YY eF) (YY o979)))) (JJ eF (JJ o179 (JJ o307 (YY o563) (YY o819)) (JJ o435 (YY o691) (YY eT))) (JJ eF (JJ eT (YY eT) (YY o883)) (JJ o499 (YY o755) (YY o1011)))))) (JJ o27 (JJ eF (JJ eT (JJ o139 (JJ o267 (YY eF) (YY eF)) (JJ o395 (YY eT) (YY eT))) (JJ o203 (JJ eT (YY eT) (YY o843)) (JJ o459 (YY eT) (YY o971)))) (JJ eT (JJ o171 (JJ eT (YY o555) (YY o811)) (JJ o427 (YY eT) (YY o939))) (JJ eT (JJ o363 (YY o619) (YY eF)) (JJ o491 (YY o747) (YY o1003))))) (JJ eT (JJ o91 (JJ eT (JJ eF (YY eT) (YY o795)) (JJ o411 (YY o667) (YY o923))) (JJ o219 (JJ o347 (YY o603) (YY o859)) (JJ eT (YY o731) (YY eT)))) (JJ o123 (JJ eT (JJ o315 (YY eF) (YY eF)) (JJ eF (YY o699) (YY eT))) (JJ o251 (JJ eT (YY eF) (YY o891)) (JJ o507 (YY o763) (YY eT)))))))) (JJ (b5 P) (JJ (b9 P) (JJ (o17 P) (JJ o33 (JJ o65 (JJ eF (JJ eT (YY o513) (YY o769)) (JJ o385 (YY eT) (YY o897))) (JJ o193 (JJ o321 (YY eT) (YY eT)) (JJ eT (YY o705) (YY o961)))) (JJ o97 (JJ o161 (JJ eT (YY o545) (YY o801)) (JJ eF (YY o673) (YY eT))) (JJ o225 (JJ eT (YY o609) (YY eF)) (JJ eF (YY eF) (YY eF))))) (JJ eT (JJ o81 (JJ eT (JJ o273 (YY eT) (YY eT)) (JJ o401 (YY o657) (YY o913))) (JJ eF (JJ o337 (YY o593) (YY o849)) (JJ o465 (YY o721) (YY o977)))) (JJ o113 (JJ o177 (JJ o305 (YY eT) (YY eF)) (JJ eT (YY o689) (YY o945))) (JJ o241 (JJ o369 (YY o625) (YY eT)) (JJ eT (YY eT) (YY o1009)))))) (JJ eT (JJ o41 (JJ eF (JJ o137 (JJ o265 (YY o521) (YY o777)) (JJ eT (YY eF) (YY o905))) (JJ eT (JJ o329 (YY eF) (YY eT)) (JJ eT (YY o713) (YY eT)))) (JJ o105 (JJ eT (JJ eF (YY o553) (YY eT)) (JJ o425 (YY eF) (YY o937))) (JJ o233 (JJ o361 (YY o617) (YY o873)) (JJ o489 (YY o745) (YY o1001))))) (JJ eF (JJ eT (JJ eF (JJ o281 (YY o537) (YY eF)) (JJ eT (YY eT) (YY eT))) (JJ o217 (JJ eT (YY eT) (YY eT)) (JJ o473 (YY eT) (YY o985)))) (JJ eT (JJ o185 (JJ o313 (YY o569) (YY o825)) (JJ o441 (YY eT) (YY eF))) (JJ o249 (JJ eF (YY o633) (YY eT)) (JJ o505 (YY o761) (YY o1017))))))) (JJ b13 (JJ o21 (JJ o37 (JJ o69 (JJ o133 (JJ eT (YY o517) (YY o773)) (JJ o389 (YY o645) (YY eF))) (JJ eT (JJ eF (YY o581) (YY o837)) (JJ o453 (YY eF) (YY o965)))) (JJ eF (JJ o165 (JJ o293 (YY o549) (YY eT)) (JJ o421 (YY o677) (YY eT))) (JJ eF (JJ eT (YY o613) (YY eT)) (JJ o485 (YY o741) (YY o997))))) (JJ o53 (JJ o85 (JJ o149 (JJ o277 (YY o533) (YY o789)) (JJ eF (YY o661) (YY eT))) (JJ o213 (JJ eT (YY o597) (YY eF)) (JJ eF (YY eT) (YY eF)))) (JJ eT (JJ eF (JJ o309 (YY eT) (YY eT)) (JJ eT (YY o693) (YY o949))) (JJ o245 (JJ o373 (YY o629) (YY o885)) (JJ eT (YY eT) (YY eF)))))) (JJ o29 (JJ eT (JJ o77 (JJ o141 (JJ eF (YY eT) (YY eT)) (JJ eT (YY o653) (YY o909))) (JJ o205 (JJ o333 (YY o589) (YY eT)) (JJ eT (YY o717) (YY eT)))) (JJ o109 (JJ eT (JJ o301 (YY o557) (YY o813)) (JJ o429 (YY o685) (YY eF))) (JJ o237 (JJ eF (YY o621) (YY eT)) (JJ o493 (YY o749) (YY eT))))) (JJ o61 (JJ eT (JJ o157 (JJ eT (YY o541) (YY eT)) (JJ o413 (YY eT) (YY o925))) (JJ eF (JJ o349 (YY eT) (YY o861)) (JJ o477 (YY o733) (YY o989)))) (JJ o125 (JJ o189 (JJ eT (YY eT) (YY eT)) (JJ eT (YY eT) (YY o957))) (JJ o253 (JJ o381 (YY eT) (YY eT)) (JJ eF (YY eF) (YY o1021))))))))) (JJ (c1_2 P) (JJ (b4 P) (JJ (b8 P) (JJ o16 (JJ o32 (JJ eF (JJ eT (JJ o256 (YY o512) (YY o768)) (JJ eF (YY o640) (YY eT))) (JJ o192 (JJ eT (YY o576) (YY o832)) (JJ o448 (YY eT) (YY eF)))) (JJ eT (JJ eF (JJ o288 (YY o544) (YY o800)) (JJ eT (YY o672) (YY o928))) (JJ o224 (JJ o352 (YY o608) (YY eT)) (JJ eT (YY eT) (YY eT))))) (JJ o48 (JJ eF (JJ o144 (JJ o272 (YY o528) (YY o784)) (JJ eT (YY eF) (YY o912))) (JJ eT (JJ o336 (YY eF) (YY eT)) (JJ eT (YY o720) (YY eT)))) (JJ o112 (JJ eT (JJ eF (YY o560) (YY eT)) (JJ o432 (YY eF) (YY o944))) (JJ o240 (JJ o368 (YY o624) (YY o880)) (JJ o496 (YY o752) (YY eT)))))) (JJ o24 (JJ o40 (JJ eT (JJ eF (JJ eT (YY o520) (YY o776)) (JJ o392 (YY eT) (YY o904))) (JJ o200 (JJ o328 (YY eT) (YY o840)) (JJ o456 (YY o712) (YY o968)))) (JJ o104 (JJ o168 (JJ eT (YY eF) (YY o808)) (JJ eF (YY eT) (YY eT))) (JJ o232 (JJ eT (YY eF) (YY o872)) (JJ eF (YY eF) (YY eF))))) (JJ eT (JJ o88 (JJ eT (JJ o280 (YY o536) (YY eT)) (JJ o408 (YY o664) (YY o920))) (JJ eF (JJ o344 (YY o600) (YY o856)) (JJ o472 (YY o728) (YY o984)))) (JJ o120 (JJ o184 (JJ o312 (YY o568) (YY o824)) (JJ o440 (YY o696) (YY eT))) (JJ eF (JJ eT (YY o632) (YY o888)) (JJ eT (YY eT) (YY o1016))))))) (JJ C7 (JJ o20 (JJ eF (JJ o68 (JJ o132 (JJ o260 (YY eF) (YY eF)) (JJ o388 (YY eT) (YY eT))) (JJ o196 (JJ eT (YY eT) (YY o836)) (JJ o452 (YY eT) (YY o964)))) (JJ eT (JJ o164 (JJ eT (YY o548) (YY o804)) (JJ o420 (YY o676) (YY o932))) (JJ eT (JJ o356 (YY o612) (YY o868)) (JJ o484 (YY o740) (YY o996))))) (JJ eT (JJ o84 (JJ eT (JJ eF (YY o532) (YY eT)) (JJ eT (YY o660) (YY o916))) (JJ o212 (JJ o340 (YY o596) (YY eT)) (JJ eT (YY o724) (YY eT)))) (JJ o116 (JJ eT (JJ o308 (YY o564) (YY o820)) (JJ o436 (YY o692) (YY eF))) (JJ o244 (JJ eF (YY eF) (YY o884)) (JJ o500 (YY o756) (YY eT)))))) (JJ o28 (JJ o44 (JJ o76 (JJ o140 (JJ eT (YY o524) (YY o780)) (JJ o396 (YY o652) (YY eF))) (JJ eT (JJ eF (YY o588) (YY o844)) (JJ o460 (YY eF) (YY o972)))) (JJ eF (JJ o172 (JJ o300 (YY o556) (YY eT)) (JJ o428 (YY o684) (YY eT))) (JJ eF (JJ eT (YY o620) (YY o876)) (JJ o492 (YY o748) (YY o1004))))) (JJ o60 (JJ o92 (JJ o156 (JJ o284 (YY eF) (YY o796)) (JJ eT (YY o668) (YY o924))) (JJ eT (JJ o348 (YY o604) (YY eT)) (JJ eF (YY eT) (YY eF)))) (JJ eT (JJ eF (JJ o316 (YY o572) (YY o828)) (JJ o444 (YY o700) (YY o956))) (JJ o252 (JJ o380 (YY o636) (YY o892)) (JJ eT (YY eT) (YY eF)))))))) (JJ (b6 P) (JJ (b10 P) (JJ eT (JJ o34 (JJ eT (JJ o130 (JJ o258 (YY o514) (YY o770)) (JJ eT (YY eF) (YY o898))) (JJ eT (JJ o322 (YY eF) (YY eF)) (JJ eF (YY o706) (YY eT)))) (JJ o98 (JJ eT (JJ eF (YY eT) (YY eT)) (JJ o418 (YY o674) (YY o930))) (JJ o226 (JJ o354 (YY eT) (YY o866)) (JJ o482 (YY o738) (YY o994))))) (JJ eF (JJ eT (JJ eF (JJ o274 (YY eF) (YY eF)) (JJ o402 (YY eT) (YY eT))) (JJ o210 (JJ eT (YY eT) (YY o850)) (JJ o466 (YY eT) (YY o978)))) (JJ eT (JJ o178 (JJ eT (YY o562) (YY o818)) (JJ o434 (YY eT) (YY o946))) (JJ eT (JJ o370 (YY o626) (YY eF)) (JJ o498 (YY o754) (YY o1010)))))) (JJ o26 (JJ eT (JJ o74 (JJ eT (JJ o266 (YY eT) (YY eT)) (JJ o394 (YY o650) (YY o906))) (JJ eF (JJ o330 (YY o586) (YY o842)) (JJ o458 (YY o714) (YY o970)))) (JJ o106 (JJ o170 (JJ o298 (YY eT) (YY eF)) (JJ eT (YY o682) (YY o938))) (JJ o234 (JJ o362 (YY eT) (YY eT)) (JJ eT (YY eT) (YY o1002))))) (JJ o58 (JJ o90 (JJ o154 (JJ eT (YY o538) (YY o794)) (JJ eF (YY o666) (YY eF))) (JJ o218 (JJ eF (YY o602) (YY eF)) (JJ o474 (YY eF) (YY o986)))) (JJ eF (JJ o186 (JJ o314 (YY eT) (YY eT)) (JJ eT (YY o698) (YY o954))) (JJ eT (JJ o378 (YY eT) (YY o890)) (JJ o506 (YY o762) (YY o1018))))))) (JJ b14 (JJ eT (JJ eT (JJ o70 (JJ o134 (JJ eF (YY eT) (YY eT)) (JJ eT (YY o646) (YY o902))) (JJ o198 (JJ o326 (YY o582) (YY eT)) (JJ eT (YY o710) (YY eT)))) (JJ o102 (JJ eT (JJ o294 (YY o550) (YY o806)) (JJ o422 (YY o678) (YY eF))) (JJ o230 (JJ eF (YY o614) (YY eF)) (JJ o486 (YY o742) (YY o998))))) (JJ o54 (JJ eT (JJ o150 (JJ eT (YY eT) (YY o790)) (JJ o406 (YY eT) (YY o918))) (JJ o214 (JJ o342 (YY eT) (YY o854)) (JJ o470 (YY o726) (YY o982)))) (JJ o118 (JJ o182 (JJ o310 (YY eF) (YY eF)) (JJ eF (YY eT) (YY o950))) (JJ o246 (JJ o374 (YY eT) (YY eT)) (JJ eF (YY eF) (YY o1014)))))) (JJ (o30 P) (JJ o46 (JJ o78 (JJ o142 (JJ o270 (YY o526) (YY o782)) (JJ eF (YY o654) (YY eT))) (JJ o206 (JJ eT (YY o590) (YY eF)) (JJ eF (YY eT) (YY eF)))) (JJ eT (JJ eF (JJ o302 (YY eT) (YY o814)) (JJ eT (YY o686) (YY o942))) (JJ eT (JJ o366 (YY eT) (YY o878)) (JJ eT (YY eT) (YY eF))))) (JJ o62 (JJ eF (JJ o158 (JJ o286 (YY eT) (YY eF)) (JJ o414 (YY eF) (YY eT))) (JJ o222 (JJ eT (YY eF) (YY o862)) (JJ o478 (YY o734) (YY o990)))) (JJ o126 (JJ eT (JJ eF (YY o574) (YY o830)) (JJ o446 (YY eF) (YY o958))) (JJ eT (JJ o382 (YY o638) (YY eF)) (JJ o510 (YY o766) (YY o1022)))))))))
noncomputable def S7(w:World)(os:OsState):SharedT:=⟨T7 w.params,1024,lf,#[],{ },1596,os⟩
noncomputable def q7:Pos:={ line:=908,col:=0,endLine:=926,endCol:=15 }
noncomputable def Z7:List Stmt:=(bd.drop 170).take 18
theorem run7(w:World)(os:OsState):segRunT treeTable pw w m0 an 1 476 (S6 w os) (piecesOf Z7 ev cE q6 tf)=some (.next,S7 w os,cE,q7):=by(rw[PySem.W.Fast.te10110043849684766642,PySem.W.Fast.te14364793385576792824];kernel_rfl)
end MineH
end
noncomputable section
open PySem PySem.W PySem.W.X PyProof.Rows
namespace MineH
theorem pre0(w:World)(os:OsState):topGo treeTable pw w m0 an 12 ⟨boot_heap w.params,#[],boot_drawn,boot_toks,os⟩ (topStub pw)=some ((S0 w os).abs,⟨denote treeTable cE,cE,qp,tf⟩):=by(rw[PySem.W.Fast.te15667345088766844465,PySem.W.Fast.te14364793385576792824,PySem.W.Fast.te11892475500146522536];kernel_rfl)
theorem blk0(w:World)(os:OsState):segRun treeTable pw w m0 an 1 1 (S0 w os).abs (blockOf bd ev cE qp tf)=some (.next,(S0 w os).abs,cE,q0):=by(rw[PySem.W.Fast.te14374325043358763698,PySem.W.Fast.te14364793385576792824];kernel_rfl)
noncomputable def H1(P:Params):Heap:=absHeap (T7 P) 1024 lf
theorem fin0(w:World)(os:OsState):topRun treeTable pw w m0 an 2 (S7 w os).abs ⟨doneF .next,cE,q7,tf⟩=some ⟨H1 w.params,#[],{ },1596,os⟩:=by(rw[PySem.W.Fast.te14082659384304107361,PySem.W.Fast.te14364793385576792824];kernel_rfl)
theorem bd_eq:bd=Z1++(Z2++(Z3++(Z4++(Z5++(Z6++(Z7++[])))))):=by kernel_rfl
theorem run_top(w:World)(os:OsState):topRun treeTable pw w m0 an (12 + (1 + (798 + (800 + (800 + (785 + (792 + (774 + (476 + 2))))))))) ⟨boot_heap w.params,#[],boot_drawn,boot_toks,os⟩ (topStub pw)=some ⟨H1 w.params,#[],{},1596,os⟩:=by
 have k2:=piece_app (segRun_of (run1 w os)) (piece_app (segRun_of (run2 w os)) (piece_app (segRun_of (run3 w os)) (piece_app (segRun_of (run4 w os)) (piece_app (segRun_of (run5 w os)) (piece_app (segRun_of (run6 w os)) (piece_app (segRun_of (run7 w os)) (piece_nil (env:=ev) (fin0 w os))))))))
 rw[← bd_eq]at k2
 exact go_top (pre0 w os) (piece_block (blk0 w os) k2)
noncomputable def nmAt:Stmt→List Str
 | .FunctionDef n _ _ _ _ _ _ _ _ _=>[n]
 | .ClassDef n _ _ _ _ _ _ _ _ _ _=>[n]
 | .Assign (.Name x _::_) _ _=>[x]
 | _=>[]
noncomputable def loose:List Str:=((bd.take 187).flatMap nmAt).filter fun x=>!startupNames.contains x
theorem open_plain:opening pw=plainProg pw.main.scope.names:=by kernel_rfl
theorem fence0(s:Shared):fenceModules? pw s=some s:=by kernel_rfl
theorem size0(w:World):((boot_heap w.params).isNs mainGlobals&&(#[]:Array GenState).size==0,(boot_heap w.params).objs.size,(boot_heap w.params).nsMap mainGlobals "__annotations__")=(true,m0,an):=by kernel_rfl
abbrev rw0:OpenLaw:=PySem.Challenge.rw_pq0209_01
set_option maxHeartbeats 4000000 in
theorem said:rw0.wellSaid=true:=by
 unfold OpenLaw.wellSaid OpenRow.wellSaid OpenRow.partSaid looksOpen
 repeat' with_reducible refine look_both ?_ ?_
 all_goals ((try rw[PySem.W.Fast.te11788848310118352699]);(try rw[PySem.W.Fast.te12862048085361865435]);(try rw[PySem.W.Fast.te8377067652309620493]);(try rw[PySem.W.Fast.te14412699480532031325]);(try rw[PySem.W.Fast.te17868728402115742887]);(try rw[PySem.W.Fast.te13343964577679436407]);(try rw[PySem.W.Fast.te17691160309236699985]);(try rw[PySem.W.Fast.te5923862056798008813]);(try rw[PySem.W.Fast.te10501279942588096481]);(try rw[PySem.W.Fast.te8179353310426384613]);(try rw[PySem.W.Fast.te8326940854005059898]);(try rw[PySem.W.Fast.te9558739934217749035]);(try rw[PySem.W.Fast.te16286561074155671207]);(try rw[PySem.W.Fast.te17119622794617984870]);(try rw[PySem.W.Fast.te10792542408131684335]);(try rw[PySem.W.Fast.te6984425678791042302]);(try rw[PySem.W.Fast.te12879404354523853263]);(try rw[PySem.W.Fast.te482687673346738481]);(try rw[PySem.W.Fast.named_eq]);(try rw[PySem.W.Fast.te18344453789297297638]);(try rw[PySem.W.Fast.te12749700546528644094]);(try rw[PySem.W.Fast.te13582783067957832011]);(try rw[PySem.W.Fast.te9572597257264208301]);(try rw[PySem.W.Fast.te797321630700447069]);(try rw[PySem.W.Fast.te2368527892694137696]);(try rw[PySem.W.Fast.sDec_eq]);(try rw[PySem.W.R.allR_eq]);(try rw[PySem.W.R.anyR_eq]);(try rw[PySem.W.S.strDecS_eq]);(try rw[PySem.W.Fast.te3471404346716756564]);(try rw[PySem.W.R.elemR_eq]);decide +kernel)
theorem bare0:rw0.row.prog.bare:=⟨rfl,rfl,rfl,rfl,rfl,by decide +kernel⟩
abbrev row0:RowW:=rw0.row.toRowW
noncomputable def lawP:Arguments:=match st 187 with | .FunctionDef _ a _ _ _ _ _ _ _ _=>a | _=>⟨[],[],none,[],[],none,[]⟩
noncomputable def lawB:List Stmt:=match st 187 with | .FunctionDef _ _ b _ _ _ _ _ _ _=>b | _=>[]
noncomputable def lawS:Scope:=match st 187 with | .FunctionDef _ _ _ _ _ _ sc _ _ _=>sc | _=>ev.scope
noncomputable def lawPos:Pos:=match st 187 with | .FunctionDef _ _ _ _ _ _ sc _ _ p=>p | _=>q0
noncomputable def dLaw:DefRec:={ name:=Str.ofString "law",params:=lawP,body:=lawB,scope:=lawS,pos:=lawPos }
theorem hdef0:defOf qv row0.name=some (dLaw,[]):=by kernel_rfl
theorem hp0:rw0.row.prog.theDef row0.name=some (dLaw.params,dLaw.body,dLaw.scope):=by(rw[PySem.W.Fast.te10235530238920679567];kernel_rfl)
theorem hk0:kwWritten? dLaw.params.kwonlyargs dLaw.params.kw_defaults=some []:=by kernel_rfl
theorem ok1:(chainsOk qv&&opensWell rw0.row.prog&&(frees row0&&row0.within.isEmpty))=true:=by kernel_rfl
theorem wt0:row0.promised:=by w_witness2
theorem imp0:importedModules pw.main.body=[]:=by(rw[PySem.W.Fast.te5923862056798008813];kernel_rfl)
theorem lk1(P:Params):staticsOk [] (boot_heap P) (H1 P)=true:=by kernel_rfl
theorem lk3(P:Params)(os:OsState):gensDone ⟨H1 P,#[],{},1596,os⟩=true:=by kernel_rfl
theorem lk4(P:Params):laidKept (boot_heap P) (H1 P)=true:=by kernel_rfl
theorem lk2(P:Params):namesBound pw (H1 P)=true:=by kernel_rfl
theorem look0(P:Params)(os:OsState):openSeen qv loose [] (fun _=>true) true ⟨H1 P,#[],{},1596,os⟩=openGood qv loose:=by(rw[PySem.W.Fast.te4187177175401517315];kernel_rfl)
noncomputable abbrev XT:Shared→Bool:=fun _=>true
theorem left0:LeftO pw qv loose XT (fun s=>s.heap) (fun w=>H1 w.params) 100000 true:=by
 refine LeftO.of_pieces (H₀:=boot_heap) (H₁:=H1) (boot_open open_plain rfl fence0) size0 (fun w os=>run_top w os) (by decide) ?_
 intro w
 funext os
 rw[imp0,lk1,lk2,lk3,lk4,look0]
 rfl
theorem head0(call:WalkX qv loose (fun _ _=>True) (fun s=>s.heap) (fun w=>H1 w.params) row0 dLaw [] fun f vs=>PySem.call f vs):rw0.Holds:=
 holds_law said fun k1=>holds_openX (r:=rw0.row) (q:=qv) (loose:=loose) (Xt:=XT) (XP:=fun _ _=>True) (Yf:=fun s=>s.heap) (Ya:=fun w=>H1 w.params) (d:=dLaw) (kwd:=[]) (N:=100000) left0
  (fun _ _=>trivial) (fun _ _ _ _ _=>trivial) hdef0 hp0 hk0 (fun s _=>recFacts_of rfl) rfl k1 ok1 bare0 wt0 call
end MineH
end
noncomputable section
open PySem
namespace Mine
open K MineH
noncomputable def fN(k:Nat):Str:=match st k with | .FunctionDef n _ _ _ _ _ _ _ _ _=>n | _=>s_len
noncomputable def fP(k:Nat):Arguments:=match st k with | .FunctionDef _ a _ _ _ _ _ _ _ _=>a | _=>⟨[],[],none,[],[],none,[]⟩
noncomputable def fB(k:Nat):List Stmt:=match st k with | .FunctionDef _ _ b _ _ _ _ _ _ _=>b | _=>[]
noncomputable def fS(k:Nat):Scope:=match st k with | .FunctionDef _ _ _ _ _ _ sc _ _ _=>sc | _=>pw.main.scope
noncomputable def lsOf(p:Arguments)(sc:Scope):List Str:=p.args.map (·.arg)++sc.names.filterMap fun x=>if (x.2 == .local || x.2 == .cell) && !(p.args.map (·.arg)).contains x.1 then some x.1 else none
noncomputable def fnsT:List Str:=[⟨⟨[nat_lit 103,nat_lit 99,nat_lit 100]⟩⟩,⟨⟨[nat_lit 103,nat_lit 99,nat_lit 100,nat_lit 95,nat_lit 97,nat_lit 108,nat_lit 108]⟩⟩,⟨⟨[nat_lit 114,nat_lit 97,nat_lit 116]⟩⟩,⟨⟨[nat_lit 114,nat_lit 97,nat_lit 100,nat_lit 100]⟩⟩,⟨⟨[nat_lit 114,nat_lit 115,nat_lit 117,nat_lit 98]⟩⟩,⟨⟨[nat_lit 114,nat_lit 109,nat_lit 117,nat_lit 108]⟩⟩,⟨⟨[nat_lit 114,nat_lit 100,nat_lit 105,nat_lit 118]⟩⟩,⟨⟨[nat_lit 114,nat_lit 110,nat_lit 101,nat_lit 103]⟩⟩,⟨⟨[nat_lit 114,nat_lit 105,nat_lit 110,nat_lit 118]⟩⟩,⟨⟨[nat_lit 114,nat_lit 112,nat_lit 111,nat_lit 119,nat_lit 101,nat_lit 114]⟩⟩,⟨⟨[nat_lit 116,nat_lit 95,nat_lit 110,nat_lit 117,nat_lit 109]⟩⟩,⟨⟨[nat_lit 116,nat_lit 95,nat_lit 115,nat_lit 121,nat_lit 109]⟩⟩,⟨⟨[nat_lit 116,nat_lit 95,nat_lit 115,nat_lit 117,nat_lit 109]⟩⟩,⟨⟨[nat_lit 116,nat_lit 95,nat_lit 112,nat_lit 114,nat_lit 111,nat_lit 100]⟩⟩,⟨⟨[nat_lit 116,nat_lit 95,nat_lit 112,nat_lit 111,nat_lit 119]⟩⟩,⟨⟨[nat_lit 105,nat_lit 115,nat_lit 95,nat_lit 110,nat_lit 117,nat_lit 109]⟩⟩,⟨⟨[nat_lit 110,nat_lit 117,nat_lit 109,nat_lit 95,nat_lit 111,nat_lit 102]⟩⟩,⟨⟨[nat_lit 105,nat_lit 115,nat_lit 95,nat_lit 119,nat_lit 104,nat_lit 111,nat_lit 108,nat_lit 101,nat_lit 95,nat_lit 110,nat_lit 117,nat_lit 109]⟩⟩,⟨⟨[nat_lit 105,nat_lit 110,nat_lit 110,nat_lit 101,nat_lit 114,nat_lit 95,nat_lit 116,nat_lit 101,nat_lit 114,nat_lit 109,nat_lit 115]⟩⟩,⟨⟨[nat_lit 97,nat_lit 108,nat_lit 108,nat_lit 95,nat_lit 116,nat_lit 101,nat_lit 114,nat_lit 109,nat_lit 115]⟩⟩,⟨⟨[nat_lit 102,nat_lit 114,nat_lit 101,nat_lit 101,nat_lit 95,nat_lit 108,nat_lit 101,nat_lit 116,nat_lit 116,nat_lit 101,nat_lit 114,nat_lit 115]⟩⟩,⟨⟨[nat_lit 99,nat_lit 111,nat_lit 110,nat_lit 116,nat_lit 97,nat_lit 105,nat_lit 110,nat_lit 115,nat_lit 95,nat_lit 108,nat_lit 101,nat_lit 116,nat_lit 116,nat_lit 101,nat_lit 114]⟩⟩,⟨⟨[nat_lit 115,nat_lit 105,nat_lit 103,nat_lit 110,nat_lit 95,nat_lit 98,nat_lit 101,nat_lit 116,nat_lit 119,nat_lit 101,nat_lit 101,nat_lit 110]⟩⟩,⟨⟨[nat_lit 99,nat_lit 111,nat_lit 109,nat_lit 112,nat_lit 97,nat_lit 114,nat_lit 101,nat_lit 95,nat_lit 118,nat_lit 97,nat_lit 108,nat_lit 117,nat_lit 101,nat_lit 115]⟩⟩,⟨⟨[nat_lit 98,nat_lit 97,nat_lit 114,nat_lit 101,nat_lit 95,nat_lit 102,nat_lit 97,nat_lit 99,nat_lit 116,nat_lit 111,nat_lit 114,nat_lit 115]⟩⟩,⟨⟨[nat_lit 102,nat_lit 114,nat_lit 111,nat_lit 110,nat_lit 116,nat_lit 95,nat_lit 118,nat_lit 97,nat_lit 108,nat_lit 117,nat_lit 101]⟩⟩,⟨⟨[nat_lit 98,nat_lit 97,nat_lit 115,nat_lit 101,nat_lit 95,nat_lit 97,nat_lit 110,nat_lit 100,nat_lit 95,nat_lit 101,nat_lit 120,nat_lit 112,nat_lit 111,nat_lit 110,nat_lit 101,nat_lit 110,nat_lit 116]⟩⟩,⟨⟨[nat_lit 99,nat_lit 111,nat_lit 109,nat_lit 112,nat_lit 97,nat_lit 114,nat_lit 101,nat_lit 95,nat_lit 114,nat_lit 111,nat_lit 119,nat_lit 115]⟩⟩,⟨⟨[nat_lit 99,nat_lit 111,nat_lit 109,nat_lit 112,nat_lit 97,nat_lit 114,nat_lit 101,nat_lit 95,nat_lit 101,nat_lit 120,nat_lit 112,nat_lit 111,nat_lit 110,nat_lit 101,nat_lit 110,nat_lit 116,nat_lit 115]⟩⟩,⟨⟨[nat_lit 99,nat_lit 111,nat_lit 109,nat_lit 112,nat_lit 97,nat_lit 114,nat_lit 101,nat_lit 95,nat_lit 98,nat_lit 97,nat_lit 115,nat_lit 101,nat_lit 115]⟩⟩,⟨⟨[nat_lit 99,nat_lit 111,nat_lit 109,nat_lit 112,nat_lit 97,nat_lit 114,nat_lit 101,nat_lit 95,nat_lit 102,nat_lit 97,nat_lit 99,nat_lit 116,nat_lit 111,nat_lit 114,nat_lit 115]⟩⟩,⟨⟨[nat_lit 99,nat_lit 111,nat_lit 109,nat_lit 112,nat_lit 97,nat_lit 114,nat_lit 101,nat_lit 95,nat_lit 116,nat_lit 101,nat_lit 114,nat_lit 109,nat_lit 115]⟩⟩,⟨⟨[nat_lit 109,nat_lit 101,nat_lit 114,nat_lit 103,nat_lit 101,nat_lit 100,nat_lit 95,nat_lit 116,nat_lit 101,nat_lit 114,nat_lit 109,nat_lit 115]⟩⟩,⟨⟨[nat_lit 115,nat_lit 111,nat_lit 114,nat_lit 116,nat_lit 95,nat_lit 116,nat_lit 101,nat_lit 114,nat_lit 109,nat_lit 115]⟩⟩,⟨⟨[nat_lit 110,nat_lit 117,nat_lit 109,nat_lit 98,nat_lit 101,nat_lit 114,nat_lit 95,nat_lit 116,nat_lit 101,nat_lit 114,nat_lit 109]⟩⟩,⟨⟨[nat_lit 110,nat_lit 117,nat_lit 109,nat_lit 98,nat_lit 101,nat_lit 114,nat_lit 95,nat_lit 97,nat_lit 110,nat_lit 100,nat_lit 95,nat_lit 114,nat_lit 101,nat_lit 115,nat_lit 116]⟩⟩,⟨⟨[nat_lit 119,nat_lit 105,nat_lit 116,nat_lit 104,nat_lit 95,nat_lit 110,nat_lit 117,nat_lit 109,nat_lit 98,nat_lit 101,nat_lit 114]⟩⟩,⟨⟨[nat_lit 102,nat_lit 108,nat_lit 97,nat_lit 116,nat_lit 95,nat_lit 112,nat_lit 97,nat_lit 114,nat_lit 116,nat_lit 115]⟩⟩,⟨⟨[nat_lit 103,nat_lit 97,nat_lit 116,nat_lit 104,nat_lit 101,nat_lit 114,nat_lit 101,nat_lit 100,nat_lit 95,nat_lit 115,nat_lit 117,nat_lit 109]⟩⟩,⟨⟨[nat_lit 105,nat_lit 115,nat_lit 95,nat_lit 111,nat_lit 110,nat_lit 101,nat_lit 95,nat_lit 99,nat_lit 97,nat_lit 108,nat_lit 108]⟩⟩,⟨⟨[nat_lit 97,nat_lit 115,nat_lit 95,nat_lit 112,nat_lit 111,nat_lit 119,nat_lit 101,nat_lit 114]⟩⟩,⟨⟨[nat_lit 103,nat_lit 97,nat_lit 116,nat_lit 104,nat_lit 101,nat_lit 114,nat_lit 101,nat_lit 100,nat_lit 95,nat_lit 112,nat_lit 114,nat_lit 111,nat_lit 100,nat_lit 117,nat_lit 99,nat_lit 116]⟩⟩,⟨⟨[nat_lit 112,nat_lit 111,nat_lit 119,nat_lit 101,nat_lit 114,nat_lit 95,nat_lit 111,nat_lit 102]⟩⟩,⟨⟨[nat_lit 110,nat_lit 117,nat_lit 109,nat_lit 98,nat_lit 101,nat_lit 114,nat_lit 95,nat_lit 112,nat_lit 111,nat_lit 119,nat_lit 101,nat_lit 114]⟩⟩,⟨⟨[nat_lit 115,nat_lit 105,nat_lit 109,nat_lit 112,nat_lit 108,nat_lit 105,nat_lit 102,nat_lit 121]⟩⟩,⟨⟨[nat_lit 115,nat_lit 117,nat_lit 109,nat_lit 95,nat_lit 112,nat_lit 97,nat_lit 114,nat_lit 116,nat_lit 115]⟩⟩,⟨⟨[nat_lit 109,nat_lit 117,nat_lit 108,nat_lit 95,nat_lit 111,nat_lit 117,nat_lit 116]⟩⟩,⟨⟨[nat_lit 109,nat_lit 117,nat_lit 108,nat_lit 95,nat_lit 97,nat_lit 108,nat_lit 108,nat_lit 95,nat_lit 111,nat_lit 117,nat_lit 116]⟩⟩,⟨⟨[nat_lit 112,nat_lit 111,nat_lit 119,nat_lit 101,nat_lit 114,nat_lit 95,nat_lit 111,nat_lit 117,nat_lit 116]⟩⟩,⟨⟨[nat_lit 101,nat_lit 120,nat_lit 112,nat_lit 97,nat_lit 110,nat_lit 100,nat_lit 95,nat_lit 112,nat_lit 111,nat_lit 119,nat_lit 101,nat_lit 114]⟩⟩,⟨⟨[nat_lit 101,nat_lit 120,nat_lit 112,nat_lit 97,nat_lit 110,nat_lit 100,nat_lit 95,nat_lit 111,nat_lit 110,nat_lit 99,nat_lit 101]⟩⟩,⟨⟨[nat_lit 101,nat_lit 120,nat_lit 112,nat_lit 97,nat_lit 110,nat_lit 100]⟩⟩,⟨⟨[nat_lit 122,nat_lit 116,nat_lit 114,nat_lit 105,nat_lit 109]⟩⟩,⟨⟨[nat_lit 122,nat_lit 100,nat_lit 101,nat_lit 103,nat_lit 114,nat_lit 101,nat_lit 101]⟩⟩,⟨⟨[nat_lit 122,nat_lit 108,nat_lit 101,nat_lit 97,nat_lit 100]⟩⟩,⟨⟨[nat_lit 122,nat_lit 97,nat_lit 100,nat_lit 100]⟩⟩,⟨⟨[nat_lit 122,nat_lit 110,nat_lit 101,nat_lit 103]⟩⟩,⟨⟨[nat_lit 122,nat_lit 115,nat_lit 117,nat_lit 98]⟩⟩,⟨⟨[nat_lit 122,nat_lit 115,nat_lit 99,nat_lit 97,nat_lit 108,nat_lit 101]⟩⟩,⟨⟨[nat_lit 122,nat_lit 114,nat_lit 97,nat_lit 105,nat_lit 115,nat_lit 101]⟩⟩,⟨⟨[nat_lit 122,nat_lit 99,nat_lit 111,nat_lit 110,nat_lit 116,nat_lit 101,nat_lit 110,nat_lit 116]⟩⟩,⟨⟨[nat_lit 122,nat_lit 100,nat_lit 105,nat_lit 118,nat_lit 105,nat_lit 100,nat_lit 101,nat_lit 100]⟩⟩,⟨⟨[nat_lit 122,nat_lit 112,nat_lit 114,nat_lit 105,nat_lit 109,nat_lit 105,nat_lit 116,nat_lit 105,nat_lit 118,nat_lit 101]⟩⟩,⟨⟨[nat_lit 122,nat_lit 115,nat_lit 104,nat_lit 105,nat_lit 102,nat_lit 116]⟩⟩,⟨⟨[nat_lit 113,nat_lit 116,nat_lit 114,nat_lit 105,nat_lit 109]⟩⟩,⟨⟨[nat_lit 113,nat_lit 100,nat_lit 101,nat_lit 103,nat_lit 114,nat_lit 101,nat_lit 101]⟩⟩,⟨⟨[nat_lit 113,nat_lit 108,nat_lit 101,nat_lit 97,nat_lit 100]⟩⟩,⟨⟨[nat_lit 113,nat_lit 97,nat_lit 100,nat_lit 100]⟩⟩,⟨⟨[nat_lit 113,nat_lit 110,nat_lit 101,nat_lit 103]⟩⟩,⟨⟨[nat_lit 113,nat_lit 115,nat_lit 117,nat_lit 98]⟩⟩,⟨⟨[nat_lit 113,nat_lit 115,nat_lit 99,nat_lit 97,nat_lit 108,nat_lit 101]⟩⟩,⟨⟨[nat_lit 113,nat_lit 114,nat_lit 97,nat_lit 105,nat_lit 115,nat_lit 101]⟩⟩,⟨⟨[nat_lit 113,nat_lit 109,nat_lit 117,nat_lit 108]⟩⟩,⟨⟨[nat_lit 113,nat_lit 100,nat_lit 105,nat_lit 118,nat_lit 109,nat_lit 111,nat_lit 100]⟩⟩,⟨⟨[nat_lit 113,nat_lit 109,nat_lit 111,nat_lit 110,nat_lit 105,nat_lit 99]⟩⟩,⟨⟨[nat_lit 113,nat_lit 103,nat_lit 99,nat_lit 100]⟩⟩,⟨⟨[nat_lit 113,nat_lit 99,nat_lit 111,nat_lit 109,nat_lit 112,nat_lit 111,nat_lit 115,nat_lit 101]⟩⟩,⟨⟨[nat_lit 116,nat_lit 111,nat_lit 95,nat_lit 122]⟩⟩,⟨⟨[nat_lit 102,nat_lit 109,nat_lit 97,nat_lit 107,nat_lit 101]⟩⟩,⟨⟨[nat_lit 102,nat_lit 110,nat_lit 117,nat_lit 109,nat_lit 98,nat_lit 101,nat_lit 114]⟩⟩,⟨⟨[nat_lit 102,nat_lit 97,nat_lit 100,nat_lit 100]⟩⟩,⟨⟨[nat_lit 102,nat_lit 109,nat_lit 117,nat_lit 108]⟩⟩,⟨⟨[nat_lit 102,nat_lit 100,nat_lit 105,nat_lit 118]⟩⟩,⟨⟨[nat_lit 102,nat_lit 112,nat_lit 111,nat_lit 119,nat_lit 101,nat_lit 114]⟩⟩,⟨⟨[nat_lit 119,nat_lit 104,nat_lit 111,nat_lit 108,nat_lit 101,nat_lit 95,nat_lit 101,nat_lit 120,nat_lit 112,nat_lit 111,nat_lit 110,nat_lit 101,nat_lit 110,nat_lit 116]⟩⟩,⟨⟨[nat_lit 102,nat_lit 114,nat_lit 111,nat_lit 109,nat_lit 95,nat_lit 116,nat_lit 101,nat_lit 114,nat_lit 109]⟩⟩,⟨⟨[nat_lit 114,nat_lit 97,nat_lit 116,nat_lit 95,nat_lit 116,nat_lit 101,nat_lit 114,nat_lit 109]⟩⟩,⟨⟨[nat_lit 112,nat_lit 111,nat_lit 108,nat_lit 121,nat_lit 95,nat_lit 116,nat_lit 101,nat_lit 114,nat_lit 109]⟩⟩,⟨⟨[nat_lit 116,nat_lit 111,nat_lit 95,nat_lit 116,nat_lit 101,nat_lit 114,nat_lit 109]⟩⟩,⟨⟨[nat_lit 105,nat_lit 110,nat_lit 95,nat_lit 108,nat_lit 101,nat_lit 116,nat_lit 116,nat_lit 101,nat_lit 114]⟩⟩,⟨⟨[nat_lit 99,nat_lit 104,nat_lit 101,nat_lit 99,nat_lit 107,nat_lit 95,nat_lit 98,nat_lit 111,nat_lit 116,nat_lit 116,nat_lit 111,nat_lit 109]⟩⟩,⟨⟨[nat_lit 112,nat_lit 115,nat_lit 101,nat_lit 117,nat_lit 100,nat_lit 111]⟩⟩,⟨⟨[nat_lit 100,nat_lit 105,nat_lit 118,nat_lit 105,nat_lit 100,nat_lit 101,nat_lit 100]⟩⟩,⟨⟨[nat_lit 102,nat_lit 117,nat_lit 108,nat_lit 108,nat_lit 95,nat_lit 114,nat_lit 101,nat_lit 115,nat_lit 116]⟩⟩,⟨⟨[nat_lit 114,nat_lit 111,nat_lit 119,nat_lit 95,nat_lit 114,nat_lit 101,nat_lit 115,nat_lit 117,nat_lit 108,nat_lit 116,nat_lit 97,nat_lit 110,nat_lit 116]⟩⟩,⟨⟨[nat_lit 114,nat_lit 101,nat_lit 115,nat_lit 117,nat_lit 108,nat_lit 116,nat_lit 97,nat_lit 110,nat_lit 116]⟩⟩,⟨⟨[nat_lit 114,nat_lit 111,nat_lit 111,nat_lit 116,nat_lit 95,nat_lit 98,nat_lit 111,nat_lit 117,nat_lit 110,nat_lit 100]⟩⟩,⟨⟨[nat_lit 102,nat_lit 105,nat_lit 114,nat_lit 115,nat_lit 116,nat_lit 95,nat_lit 100,nat_lit 105,nat_lit 102,nat_lit 102,nat_lit 101,nat_lit 114,nat_lit 101,nat_lit 110,nat_lit 99,nat_lit 101,nat_lit 115]⟩⟩,⟨⟨[nat_lit 122,nat_lit 101,nat_lit 114,nat_lit 111,nat_lit 115,nat_lit 95,nat_lit 111,nat_lit 110]⟩⟩,⟨⟨[nat_lit 100,nat_lit 105,nat_lit 115,nat_lit 112,nat_lit 101,nat_lit 114,nat_lit 115,nat_lit 105,nat_lit 111,nat_lit 110,nat_lit 115]⟩⟩,⟨⟨[nat_lit 115,nat_lit 104,nat_lit 97,nat_lit 112,nat_lit 101]⟩⟩,⟨⟨[nat_lit 110,nat_lit 101,nat_lit 101,nat_lit 100,nat_lit 95,nat_lit 115,nat_lit 104,nat_lit 97,nat_lit 112,nat_lit 101]⟩⟩,⟨⟨[nat_lit 99,nat_lit 111,nat_lit 112,nat_lit 105,nat_lit 101,nat_lit 100]⟩⟩,⟨⟨[nat_lit 115,nat_lit 119,nat_lit 97,nat_lit 112,nat_lit 95,nat_lit 114,nat_lit 111,nat_lit 119,nat_lit 115]⟩⟩,⟨⟨[nat_lit 116,nat_lit 97,nat_lit 107,nat_lit 101,nat_lit 95,nat_lit 111,nat_lit 102,nat_lit 102]⟩⟩,⟨⟨[nat_lit 101,nat_lit 99,nat_lit 104,nat_lit 101,nat_lit 108,nat_lit 111,nat_lit 110]⟩⟩,⟨⟨[nat_lit 110,nat_lit 117,nat_lit 108,nat_lit 108,nat_lit 95,nat_lit 98,nat_lit 97,nat_lit 115,nat_lit 101]⟩⟩,⟨⟨[nat_lit 115,nat_lit 111,nat_lit 108,nat_lit 118,nat_lit 101,nat_lit 95,nat_lit 115,nat_lit 121,nat_lit 115,nat_lit 116,nat_lit 101,nat_lit 109]⟩⟩,⟨⟨[nat_lit 109,nat_lit 111,nat_lit 118,nat_lit 101,nat_lit 100]⟩⟩,⟨⟨[nat_lit 112,nat_lit 97,nat_lit 114,nat_lit 116,nat_lit 101,nat_lit 100]⟩⟩,⟨⟨[nat_lit 99,nat_lit 111,nat_lit 101,nat_lit 102,nat_lit 102,nat_lit 105,nat_lit 99,nat_lit 105,nat_lit 101,nat_lit 110,nat_lit 116,nat_lit 95,nat_lit 97,nat_lit 116]⟩⟩,⟨⟨[nat_lit 109,nat_lit 111,nat_lit 115,nat_lit 116,nat_lit 95,nat_lit 100,nat_lit 101,nat_lit 103,nat_lit 114,nat_lit 101,nat_lit 101]⟩⟩,⟨⟨[nat_lit 100,nat_lit 105,nat_lit 102,nat_lit 102,nat_lit 101,nat_lit 114,nat_lit 101,nat_lit 110,nat_lit 99,nat_lit 101,nat_lit 95,nat_lit 111,nat_lit 102]⟩⟩,⟨⟨[nat_lit 107,nat_lit 101,nat_lit 121,nat_lit 95,nat_lit 115,nat_lit 111,nat_lit 108,nat_lit 117,nat_lit 116,nat_lit 105,nat_lit 111,nat_lit 110]⟩⟩,⟨⟨[nat_lit 116,nat_lit 114,nat_lit 105,nat_lit 109,nat_lit 109,nat_lit 101,nat_lit 100]⟩⟩,⟨⟨[nat_lit 103,nat_lit 111,nat_lit 115,nat_lit 112,nat_lit 101,nat_lit 114]⟩⟩,⟨⟨[nat_lit 112,nat_lit 111,nat_lit 119,nat_lit 101,nat_lit 114,nat_lit 95,nat_lit 105,nat_lit 110]⟩⟩,⟨⟨[nat_lit 99,nat_lit 111,nat_lit 108,nat_lit 108,nat_lit 101,nat_lit 99,nat_lit 116]⟩⟩,⟨⟨[nat_lit 108,nat_lit 105,nat_lit 110,nat_lit 101,nat_lit 97,nat_lit 114,nat_lit 95,nat_lit 112,nat_lit 97,nat_lit 114,nat_lit 116,nat_lit 115]⟩⟩,⟨⟨[nat_lit 114,nat_lit 97,nat_lit 116,nat_lit 105,nat_lit 111,nat_lit 110,nat_lit 97,nat_lit 108,nat_lit 95,nat_lit 114,nat_lit 97,nat_lit 116,nat_lit 105,nat_lit 111]⟩⟩,⟨⟨[nat_lit 112,nat_lit 111,nat_lit 119,nat_lit 101,nat_lit 114,nat_lit 95,nat_lit 114,nat_lit 97,nat_lit 116,nat_lit 105,nat_lit 111]⟩⟩,⟨⟨[nat_lit 114,nat_lit 97,nat_lit 116,nat_lit 105,nat_lit 111,nat_lit 95,nat_lit 111,nat_lit 102]⟩⟩,⟨⟨[nat_lit 112,nat_lit 111,nat_lit 108,nat_lit 121,nat_lit 110,nat_lit 111,nat_lit 109,nat_lit 105,nat_lit 97,nat_lit 108,nat_lit 95,nat_lit 102,nat_lit 111,nat_lit 114,nat_lit 109]⟩⟩,⟨⟨[nat_lit 115,nat_lit 117,nat_lit 109,nat_lit 109,nat_lit 101,nat_lit 100,nat_lit 95,nat_lit 102,nat_lit 111,nat_lit 114,nat_lit 109]⟩⟩,⟨⟨[nat_lit 105,nat_lit 110,nat_lit 100,nat_lit 101,nat_lit 102,nat_lit 105,nat_lit 110,nat_lit 105,nat_lit 116,nat_lit 101,nat_lit 95,nat_lit 115,nat_lit 117,nat_lit 109]⟩⟩,⟨⟨[nat_lit 95,nat_lit 108,nat_lit 97,nat_lit 119,nat_lit 95,nat_lit 118,nat_lit 97,nat_lit 108,nat_lit 117,nat_lit 101]⟩⟩]
noncomputable def num(a b:Int):V:=.tuple [.str ⟨⟨[nat_lit 110,nat_lit 117,nat_lit 109]⟩⟩,.int a,.int b]
noncomputable def litsT:List (Str × V):=[(⟨⟨[nat_lit 82,nat_lit 48]⟩⟩,(.tuple [(.int (.ofNat .zero)),(.int (.ofNat (.succ (nat_lit 0))))])),(⟨⟨[nat_lit 82,nat_lit 49]⟩⟩,(.tuple [(.int (.ofNat (.succ (nat_lit 0)))),(.int (.ofNat (.succ (nat_lit 0))))])),(⟨⟨[nat_lit 77,nat_lit 79,nat_lit 83,nat_lit 84,nat_lit 95,nat_lit 66,nat_lit 73,nat_lit 84,nat_lit 83]⟩⟩,(.int (.ofNat (.succ (nat_lit 199999))))),(⟨⟨[nat_lit 84,nat_lit 95,nat_lit 90,nat_lit 69,nat_lit 82,nat_lit 79]⟩⟩,(.tuple [.str ⟨⟨[nat_lit 110,nat_lit 117,nat_lit 109]⟩⟩,(.int (.ofNat .zero)),(.int (.ofNat (.succ (nat_lit 0))))])),(⟨⟨[nat_lit 84,nat_lit 95,nat_lit 79,nat_lit 78,nat_lit 69]⟩⟩,(.tuple [.str ⟨⟨[nat_lit 110,nat_lit 117,nat_lit 109]⟩⟩,(.int (.ofNat (.succ (nat_lit 0)))),(.int (.ofNat (.succ (nat_lit 0))))])),(⟨⟨[nat_lit 84,nat_lit 95,nat_lit 77,nat_lit 73,nat_lit 78,nat_lit 85,nat_lit 83]⟩⟩,(.tuple [.str ⟨⟨[nat_lit 110,nat_lit 117,nat_lit 109]⟩⟩,(.int (Int.negSucc Nat.zero)),(.int (.ofNat (.succ (nat_lit 0))))])),(⟨⟨[nat_lit 82,nat_lit 65,nat_lit 78,nat_lit 75,nat_lit 83]⟩⟩,(.dict [((.str ⟨⟨[nat_lit 115,nat_lit 121,nat_lit 109]⟩⟩),(.int (.ofNat .zero))),((.str ⟨⟨[nat_lit 99,nat_lit 97,nat_lit 108,nat_lit 108]⟩⟩),(.int (.ofNat (.succ (nat_lit 0))))),((.str ⟨⟨[nat_lit 115,nat_lit 117,nat_lit 109]⟩⟩),(.int (.ofNat (.succ (nat_lit 1))))),((.str ⟨⟨[nat_lit 112,nat_lit 114,nat_lit 111,nat_lit 100]⟩⟩),(.int (.ofNat (.succ (nat_lit 2))))),((.str ⟨⟨[nat_lit 110,nat_lit 117,nat_lit 109]⟩⟩),(.int (.ofNat (.succ (nat_lit 3))))),((.str ⟨⟨[nat_lit 112,nat_lit 111,nat_lit 119]⟩⟩),(.int (.ofNat (.succ (nat_lit 4))))),((.str ⟨⟨[nat_lit 101,nat_lit 113]⟩⟩),(.int (.ofNat (.succ (nat_lit 5))))),((.str ⟨⟨[nat_lit 108,nat_lit 105,nat_lit 115,nat_lit 116]⟩⟩),(.int (.ofNat (.succ (nat_lit 6)))))])),(⟨⟨[nat_lit 90,nat_lit 69,nat_lit 82,nat_lit 79]⟩⟩,(.tuple [.str ⟨⟨[nat_lit 110,nat_lit 117,nat_lit 109]⟩⟩,(.int (.ofNat .zero)),(.int (.ofNat (.succ (nat_lit 0))))])),(⟨⟨[nat_lit 79,nat_lit 78,nat_lit 69]⟩⟩,(.tuple [.str ⟨⟨[nat_lit 110,nat_lit 117,nat_lit 109]⟩⟩,(.int (.ofNat (.succ (nat_lit 0)))),(.int (.ofNat (.succ (nat_lit 0))))])),(⟨⟨[nat_lit 77,nat_lit 73,nat_lit 78,nat_lit 85,nat_lit 83,nat_lit 95,nat_lit 79,nat_lit 78,nat_lit 69]⟩⟩,(.tuple [.str ⟨⟨[nat_lit 110,nat_lit 117,nat_lit 109]⟩⟩,(.int (Int.negSucc Nat.zero)),(.int (.ofNat (.succ (nat_lit 0))))])),(⟨⟨[nat_lit 72,nat_lit 65,nat_lit 76,nat_lit 70]⟩⟩,(.tuple [.str ⟨⟨[nat_lit 110,nat_lit 117,nat_lit 109]⟩⟩,(.int (.ofNat (.succ (nat_lit 0)))),(.int (.ofNat (.succ (nat_lit 1))))])),(⟨⟨[nat_lit 69,nat_lit 88,nat_lit 80,nat_lit 95,nat_lit 79,nat_lit 78,nat_lit 69]⟩⟩,(.tuple [(.str ⟨⟨[nat_lit 99,nat_lit 97,nat_lit 108,nat_lit 108]⟩⟩),(.str ⟨⟨[nat_lit 101,nat_lit 120,nat_lit 112]⟩⟩),.tuple [(.tuple [.str ⟨⟨[nat_lit 110,nat_lit 117,nat_lit 109]⟩⟩,(.int (.ofNat (.succ (nat_lit 0)))),(.int (.ofNat (.succ (nat_lit 0))))])]])),(⟨⟨[nat_lit 77,nat_lit 79,nat_lit 83,nat_lit 84,nat_lit 95,nat_lit 70,nat_lit 65,nat_lit 67,nat_lit 84,nat_lit 79,nat_lit 82,nat_lit 69,nat_lit 68]⟩⟩,(.int (.ofNat (.succ (nat_lit 999999))))),(⟨⟨[nat_lit 77,nat_lit 79,nat_lit 83,nat_lit 84,nat_lit 95,nat_lit 70,nat_lit 65,nat_lit 67,nat_lit 84,nat_lit 79,nat_lit 82,nat_lit 73,nat_lit 65,nat_lit 76]⟩⟩,(.int (.ofNat (.succ (nat_lit 199))))),(⟨⟨[nat_lit 79,nat_lit 68,nat_lit 68,nat_lit 95,nat_lit 67,nat_lit 65,nat_lit 76,nat_lit 76,nat_lit 83]⟩⟩,(.tuple [(.str ⟨⟨[nat_lit 115,nat_lit 105,nat_lit 110]⟩⟩),(.str ⟨⟨[nat_lit 116,nat_lit 97,nat_lit 110]⟩⟩),(.str ⟨⟨[nat_lit 97,nat_lit 116,nat_lit 97,nat_lit 110]⟩⟩)])),(⟨⟨[nat_lit 70,nat_lit 48]⟩⟩,(.tuple [.list [],.list [(.tuple [(.int (.ofNat (.succ (nat_lit 0)))),(.int (.ofNat (.succ (nat_lit 0))))])]])),(⟨⟨[nat_lit 70,nat_lit 49]⟩⟩,(.tuple [.list [(.tuple [(.int (.ofNat (.succ (nat_lit 0)))),(.int (.ofNat (.succ (nat_lit 0))))])],.list [(.tuple [(.int (.ofNat (.succ (nat_lit 0)))),(.int (.ofNat (.succ (nat_lit 0))))])]])),(⟨⟨[nat_lit 95,nat_lit 108,nat_lit 97,nat_lit 119,nat_lit 95,nat_lit 110]⟩⟩,(.tuple [(.str ⟨⟨[nat_lit 115,nat_lit 121,nat_lit 109]⟩⟩),(.str ⟨⟨[nat_lit 110]⟩⟩)]))]
noncomputable def lendsT:List Str:=[⟨⟨[nat_lit 115,nat_lit 119,nat_lit 97,nat_lit 112,nat_lit 95,nat_lit 114,nat_lit 111,nat_lit 119,nat_lit 115]⟩⟩,⟨⟨[nat_lit 116,nat_lit 97,nat_lit 107,nat_lit 101,nat_lit 95,nat_lit 111,nat_lit 102,nat_lit 102]⟩⟩]
noncomputable def freshT:List Str:=[⟨⟨[nat_lit 99,nat_lit 111,nat_lit 112,nat_lit 105,nat_lit 101,nat_lit 100]⟩⟩]
noncomputable def cxF(k:Nat):Cx:={ names:=(fS k).names,ls:=lsOf (fP k) (fS k),fns:=fnsT,lits:=litsT,lends:=lendsT,fresh:=freshT }
noncomputable def ogL:List (List V→R):=[F0,F1,F2,F3,F4,F5,F6,F7,F8,F9,F10,F11,F12,F13,F14,F15,F16,F17,F18,F19,F20,F21,F22,F23,F24,F25,F26,F27,F28,F29,F30,F31,F32,F33,F34,F35,F36,F37,F38,F39,F40,F41,F42,F43,F44,F45,F46,F47,F48,F49,F50,F51,F52,F53,F54,F55,F56,F57,F58,F59,F60,F61,F62,F63,F64,F65,F66,F67,F68,F69,F70,F71,F72,F73,F74,F75,F76,F77,F78,F79,F80,F81,F82,F83,F84,F85,F86,F87,F88,F89,F90,F91,F92,F93,F94,F95,F96,F97,F98,F99,F100,F101,F102,F103,F104,F105,F106,F107,F108,F109,F110,F111,F112,F113,F114,F115,F116,F117,F118,F119,F120,F121,F122,F123,F124,F125]
noncomputable def og(i:Nat):List V→R:=ogL.getD i fun _=>none
noncomputable def Oc(cs:List Nat)(i:Nat):List V→R:=@Bool.rec (fun _=>List V→R) (fun _=>none) (og i) (cs.any fun j=>Nat.beq j i)
noncomputable def OclG:List Nat→Nat→(Nat→List V→R)→List Nat→Nat→List V→R
 | [],_,_,cs,j=>Oc cs j
 | a::ms,n,c,cs,j=>@Bool.rec (fun _=>List V→R) (OclG ms (n + 1) c cs j) (c n) (Nat.beq a j)
noncomputable def Ocl(ms:List Nat)(c:Nat→List V→R)(cs:List Nat)(j:Nat):List V→R:=OclG ms 0 c cs j
noncomputable def kT:List Nat:=[3,5,12,13,14,15,16,17,18,19,26,27,28,29,30,31,32,33,34,35,36,37,40,41,42,43,44,45,46,47,48,49,50,51,61,62,63,64,65,66,67,68,69,71,79,81,82,83,84,85,86,87,93,94,95,96,97,98,99,100,101,102,103,104,106,107,108,109,110,111,112,113,114,115,116,117,118,119,123,125,126,127,129,130,132,133,134,135,136,137,139,140,142,143,144,145,147,149,150,151,153,154,155,156,157,158,160,161,163,164,165,166,167,168,169,170,172,173,175,176,177,179,180,181,182,186]
theorem okAll:(kT.all fun k=>okFn (cxF k) (fP k) (fS k))=true:=by kernel_rfl
noncomputable def cdF(OL O:Nat→List V→R)(m:Md)(k:Nat):X:=blk (cS OL (K.cE O 61) m (cxF k) 60) (fB k)
end Mine
end
noncomputable section
open PySem PySem.W PyProof.Rows
namespace Mine
open K (R D DL X Orc Rec TgL)
variable{w:Pk}{A:Around}
noncomputable def OkA(A:Around)(d:Nat):Prop:=A.handled=none∧A.depth + d < recursionLimit∧A.units + 3 * d + 100 < cLine
theorem OkA.deeper{d:Nat}{env:Env}(h:OkA A (d + 1)):OkA (A.deeper env) d:=by
 obtain⟨a,b,c⟩:=h
 refine⟨a,?_,?_⟩
 ·show A.depth + 1 + d < recursionLimit;omega
 ·show A.units + 3 + 3 * d + 100 < cLine;omega
theorem OkA.le{d d':Nat}(h:OkA A d')(q:d≤d'):OkA A d:=by
 obtain⟨a,b,c⟩:=h
 exact⟨a,by omega,by omega⟩
noncomputable def frOk(i:Nat)(m:Md):Bool:=match fnsT[i]? with
 | some f=>!freshT.contains f || m.fr
 | none=>true
section
variable(w:Pk)
noncomputable def RtF(d:Nat)(i:Nat)(F:List V→R):Prop:=∀ A,OkA A d→∀ f,fnsT[i]?=some f→∀ xs z,F xs=some z→Right w A fnsT litsT freshT f xs z
noncomputable def LtF(d:Nat)(i:Nat)(F:List V→R):Prop:=∀ A,OkA A d→∀ f,fnsT[i]?=some f→∀ x ds z,F (x::ds)=some z→LRight w A fnsT litsT f x ds z
noncomputable abbrev RtI(d i:Nat):Prop:=RtF w d i (og i)
noncomputable abbrev LtI(d i:Nat):Prop:=LtF w d i (og i)
end
theorem RtF.le{d d' i:Nat}{F:List V→R}(h:RtF w d i F)(q:d≤d'):RtF w d' i F:=fun A a=>h A (a.le q)
theorem LtF.le{d d' i:Nat}{F:List V→R}(h:LtF w d i F)(q:d≤d'):LtF w d' i F:=fun A a=>h A (a.le q)
structure Bs(w:Pk):Prop where
 lim:w.base.NoLimit
 fn:∀ (i k:Nat) (f:Str),kT[i]?=some k→fnsT[i]?=some f→FnAt w f (fP k) (fB k) (fS k)
theorem okF{i k:Nat}(h:kT[i]?=some k):OkFn (cxF k) (fP k) (fS k):=okFn_ok rfl (List.all_eq_true.mp okAll k (List.mem_of_getElem? h))
theorem any_mem{cs:List Nat}{i:Nat}(h:(cs.any fun j=>Nat.beq j i)=true):i∈cs:=by
 obtain⟨j,hj,e⟩:=List.any_eq_true.mp h
 rw[Nat.eq_of_beq_eq_true e]at hj;exact hj
theorem Oc_some{cs:List Nat}{i:Nat}{xs:List V}{z:V}(h:Oc cs i xs=some z):i∈cs∧og i xs=some z:=by
 unfold Oc at h
 cases q:cs.any fun j=>Nat.beq j i with
 | false=>rw[q]at h;cases h
 | true=>rw[q]at h;exact⟨any_mem q,h⟩
theorem call_of{O:Orc}{d:Nat}(h:OkA A d)(H:∀ j,RtF w d j (O j)):CallOk w A O fnsT litsT freshT:=fun f i xs z hi hz=>H i A h f (by have:=idxS_at f _ _ _ hi;rwa [Nat.sub_zero]at this) xs z hz
theorem lend_of{O:Orc}{d:Nat}(h:OkA A d)(H:∀ j,LtF w d j (O j)):LendOk w A O fnsT litsT:=fun f i x ds z hi hz=>H i A h f (by have:=idxS_at f _ _ _ hi;rwa [Nat.sub_zero]at this) x ds z hz
theorem oc_rt{cs:List Nat}{d:Nat}(H:∀ j∈cs,RtI w d j):∀ j,RtF w d j (Oc cs j):=fun j A a f hf xs z hz=>let ⟨m,e⟩:=Oc_some hz;H j m A a f hf xs z e
theorem oc_lt{cs:List Nat}{d:Nat}(H:∀ j∈cs,LtI w d j):∀ j,LtF w d j (Oc cs j):=fun j A a f hf x ds z hz=>let ⟨m,e⟩:=Oc_some hz;H j m A a f hf x ds z e
noncomputable abbrev bf(k:Nat)(x:X):List V→R:=fnA (fP k).args.length ((cxF k).ls.length - (fP k).args.length) x
noncomputable abbrev bl(k:Nat)(x:X):List V→R:=lnA (fP k).args.length ((cxF k).ls.length - (fP k).args.length) x
theorem rt_mk(B:Bs w){i k d:Nat}{O OL:Orc}{m:Md}{F:List V→R}(hk:kT[i]?=some k)(he:F=bf k (cdF OL O m k))(hm:m.ln=false)(hfr:frOk i m=true)(hO:∀ j,RtF w d j (O j))(hL:∀ j,LtF w d j (OL j)):RtF w (d + 1) i F:=by
 intro A a f hf xs z hz
 rw[he]at hz
 refine fn_right (c:=cxF k) (m:=m) (O:=O) (OL:=OL) (k:=60) (n:=60) a.1 (by have:=a.2.1;omega) (by have:=a.2.2;omega) B.lim (B.fn i k f hk hf) (okF hk) (fun env=>call_of a.deeper hO) (fun env=>lend_of a.deeper hL) hm (fun q=>?_) hz
 unfold frOk at hfr
 rw[hf]at hfr
 have q:freshT.contains f=true:=q
 have hfr:(!freshT.contains f || m.fr)=true:=hfr
 rw[q]at hfr;exact hfr
theorem lt_mk(B:Bs w){i k d:Nat}{O OL:Orc}{m:Md}{F:List V→R}(hk:kT[i]?=some k)(he:F=bl k (cdF OL O m k))(hm:m.ln=true)(hx0:∃ x,(cxF k).slot x=some 0)(hO:∀ j,RtF w d j (O j))(hL:∀ j,LtF w d j (OL j)):LtF w (d + 1) i F:=by
 intro A a f hf x ds z hz
 rw[he]at hz
 exact ln_right (c:=cxF k) (m:=m) (O:=O) (OL:=OL) (k:=60) (n:=60) a.1 (by have:=a.2.1;omega) (by have:=a.2.2;omega) B.lim (B.fn i k f hk hf) (okF hk) hx0 (fun env=>call_of a.deeper hO) (fun env=>lend_of a.deeper hL) hm hz
theorem nr(B:Bs w){i k d:Nat}{cs ls:List Nat}{m:Md}(hk:kT[i]?=some k)(he:og i=bf k (cdF (Oc ls) (Oc cs) m k))(hm:m.ln=false)(hfr:frOk i m=true)(hcs:∀ j∈cs,RtI w d j)(hls:∀ j∈ls,LtI w d j):RtI w (d + 1) i:=
 rt_mk B hk he hm hfr (oc_rt hcs) (oc_lt hls)
theorem nl(B:Bs w){i k d:Nat}{cs ls:List Nat}{m:Md}(hk:kT[i]?=some k)(he:og i=bl k (cdF (Oc ls) (Oc cs) m k))(hm:m.ln=true)(hx0:∃ x,(cxF k).slot x=some 0)(hcs:∀ j∈cs,RtI w d j)(hls:∀ j∈ls,LtI w d j):LtI w (d + 1) i:=
 lt_mk B hk he hm hx0 (oc_rt hcs) (oc_lt hls)
theorem Ocl_some{ms cs:List Nat}{c:Nat→List V→R}{j:Nat}{xs:List V}{z:V}(h:Ocl ms c cs j xs=some z):(∃ p,ms[p]?=some j∧c p xs=some z)∨(j∈cs∧og j xs=some z):=by
 have key:∀ (ms:List Nat) (n:Nat),(∀ p,ms[p]?=some j→∃ q,n + p=q)→OclG ms n c cs j xs=some z→(∃ p,ms[p]?=some j∧c (n + p) xs=some z)∨(j∈cs∧og j xs=some z):=by
  intro ms
  induction ms with
  | nil=>intro n _ h;exact .inr (Oc_some h)
  | cons a ms ih=>
   intro n _ h
   have h:@Bool.rec (fun _=>List V→R) (OclG ms (n + 1) c cs j) (c n) (Nat.beq a j) xs=some z:=h
   cases q:Nat.beq a j with
   | true=>
    rw[q]at h
    have:=Nat.eq_of_beq_eq_true q
    subst this
    exact .inl ⟨0,rfl,h⟩
   | false=>
    rw[q]at h
    rcases ih (n + 1) (fun p _=>⟨_,rfl⟩) h with ⟨p,e,h⟩ | h
    ·exact .inl ⟨p + 1,by simpa using e,by rw[show n + (p + 1)=n + 1 + p by omega];exact h⟩
    ·exact .inr h
 rcases key ms 0 (fun p _=>⟨_,rfl⟩) h with ⟨p,e,h⟩ | h
 ·exact .inl ⟨p,e,by rwa [Nat.zero_add]at h⟩
 ·exact .inr h
theorem clr(B:Bs w){cl:Nat→Nat→List V→R}{ms cs:List Nat}{b:Nat}(h0:∀ p xs,cl 0 p xs=none)
  (hs:∀ (n p i:Nat),ms[p]?=some i→∃ k m,kT[i]?=some k∧m.ln=false∧frOk i m=true∧cl (n + 1) p=bf k (cdF (Oc []) (Ocl ms (cl n) cs) m k)) (hcs:∀ j∈cs,RtI w b j):
  ∀ (n p i:Nat),ms[p]?=some i→RtF w (b + n) i (cl n p)
 | 0,p,i,hi=>fun A a f hf xs z hz=>by rw[h0]at hz;cases hz
 | n + 1,p,i,hi=>by
  obtain⟨k,m,hk,hm,hfr,he⟩:=hs n p i hi
  refine rt_mk (d:=b + n) B hk he hm hfr (fun j A a f hf xs z hz=>?_) (oc_lt fun j q=>nomatch q)
  rcases Ocl_some hz with ⟨p',e',h'⟩ | ⟨mj,h'⟩
  ·exact clr B h0 hs hcs n p' j e' A a f hf xs z h'
  ·exact(hcs j mj).le (by omega) A a f hf xs z h'
inductive All(P:Nat→Prop):List Nat→Prop
 | nil:All P []
 | cons {j js}:P j→All P js→All P (j::js)
theorem All.mem{P:Nat→Prop}{js:List Nat}(h:All P js):∀ j∈js,P j:=by
 induction h with
 | nil=>exact fun j q=>nomatch q
 | cons a _ ih=>
  intro j m
  rcases List.mem_cons.mp m with rfl | m
  ·exact a
  ·exact ih j m
theorem no0{P:Nat→Prop}:∀ j∈([]:List Nat),P j:=All.mem .nil
end Mine
end
noncomputable section
open PySem PySem.W PyProof.Rows
namespace Mine
open K MineH
section
variable{w:Pk}
theorem e0:og 0=bf 3 (cdF (Oc []) (Oc []) ⟨false,false,[]⟩ 3):=by kernel_rfl
theorem r0(B:Bs w):RtI w 1 0:=nr B rfl e0 rfl (by kernel_rfl) no0 no0
theorem e1:og 1=bf 5 (cdF (Oc []) (Oc [0]) ⟨false,false,[]⟩ 5):=by kernel_rfl
theorem r1(B:Bs w):RtI w 2 1:=nr B rfl e1 rfl (by kernel_rfl) (All.mem (.cons ((r0 B).le (by decide)) .nil)) no0
theorem e2:og 2=bf 12 (cdF (Oc []) (Oc [0]) ⟨false,false,[]⟩ 12):=by kernel_rfl
theorem r2(B:Bs w):RtI w 2 2:=nr B rfl e2 rfl (by kernel_rfl) (All.mem (.cons ((r0 B).le (by decide)) .nil)) no0
theorem e3:og 3=bf 13 (cdF (Oc []) (Oc [2]) ⟨false,false,[]⟩ 13):=by kernel_rfl
theorem r3(B:Bs w):RtI w 3 3:=nr B rfl e3 rfl (by kernel_rfl) (All.mem (.cons ((r2 B).le (by decide)) .nil)) no0
theorem e4:og 4=bf 14 (cdF (Oc []) (Oc [2]) ⟨false,false,[]⟩ 14):=by kernel_rfl
theorem r4(B:Bs w):RtI w 3 4:=nr B rfl e4 rfl (by kernel_rfl) (All.mem (.cons ((r2 B).le (by decide)) .nil)) no0
theorem e5:og 5=bf 15 (cdF (Oc []) (Oc [2]) ⟨false,false,[]⟩ 15):=by kernel_rfl
theorem r5(B:Bs w):RtI w 3 5:=nr B rfl e5 rfl (by kernel_rfl) (All.mem (.cons ((r2 B).le (by decide)) .nil)) no0
theorem e6:og 6=bf 16 (cdF (Oc []) (Oc [2]) ⟨false,false,[]⟩ 16):=by kernel_rfl
theorem r6(B:Bs w):RtI w 3 6:=nr B rfl e6 rfl (by kernel_rfl) (All.mem (.cons ((r2 B).le (by decide)) .nil)) no0
theorem e7:og 7=bf 17 (cdF (Oc []) (Oc []) ⟨false,false,[]⟩ 17):=by kernel_rfl
theorem r7(B:Bs w):RtI w 1 7:=nr B rfl e7 rfl (by kernel_rfl) no0 no0
theorem e8:og 8=bf 18 (cdF (Oc []) (Oc [2]) ⟨false,false,[]⟩ 18):=by kernel_rfl
theorem r8(B:Bs w):RtI w 3 8:=nr B rfl e8 rfl (by kernel_rfl) (All.mem (.cons ((r2 B).le (by decide)) .nil)) no0
theorem e9:og 9=bf 19 (cdF (Oc []) (Oc [8]) ⟨false,false,[]⟩ 19):=by kernel_rfl
theorem r9(B:Bs w):RtI w 4 9:=nr B rfl e9 rfl (by kernel_rfl) (All.mem (.cons ((r8 B).le (by decide)) .nil)) no0
theorem e10:og 10=bf 26 (cdF (Oc []) (Oc [2]) ⟨false,false,[]⟩ 26):=by kernel_rfl
theorem r10(B:Bs w):RtI w 3 10:=nr B rfl e10 rfl (by kernel_rfl) (All.mem (.cons ((r2 B).le (by decide)) .nil)) no0
theorem e11:og 11=bf 27 (cdF (Oc []) (Oc []) ⟨false,false,[]⟩ 27):=by kernel_rfl
theorem r11(B:Bs w):RtI w 1 11:=nr B rfl e11 rfl (by kernel_rfl) no0 no0
theorem e12:og 12=bf 28 (cdF (Oc []) (Oc []) ⟨false,false,[]⟩ 28):=by kernel_rfl
theorem r12(B:Bs w):RtI w 1 12:=nr B rfl e12 rfl (by kernel_rfl) no0 no0
theorem e13:og 13=bf 29 (cdF (Oc []) (Oc []) ⟨false,false,[]⟩ 29):=by kernel_rfl
theorem r13(B:Bs w):RtI w 1 13:=nr B rfl e13 rfl (by kernel_rfl) no0 no0
theorem e14:og 14=bf 30 (cdF (Oc []) (Oc []) ⟨false,false,[]⟩ 30):=by kernel_rfl
theorem r14(B:Bs w):RtI w 1 14:=nr B rfl e14 rfl (by kernel_rfl) no0 no0
theorem e15:og 15=bf 31 (cdF (Oc []) (Oc []) ⟨false,false,[]⟩ 31):=by kernel_rfl
theorem r15(B:Bs w):RtI w 1 15:=nr B rfl e15 rfl (by kernel_rfl) no0 no0
theorem e16:og 16=bf 32 (cdF (Oc []) (Oc []) ⟨false,false,[]⟩ 32):=by kernel_rfl
theorem r16(B:Bs w):RtI w 1 16:=nr B rfl e16 rfl (by kernel_rfl) no0 no0
theorem e17:og 17=bf 33 (cdF (Oc []) (Oc []) ⟨false,false,[]⟩ 33):=by kernel_rfl
theorem r17(B:Bs w):RtI w 1 17:=nr B rfl e17 rfl (by kernel_rfl) no0 no0
theorem e18:og 18=bf 34 (cdF (Oc []) (Oc []) ⟨false,false,[]⟩ 34):=by kernel_rfl
theorem r18(B:Bs w):RtI w 1 18:=nr B rfl e18 rfl (by kernel_rfl) no0 no0
theorem e19:og 19=bf 35 (cdF (Oc []) (Oc [18]) ⟨false,false,[1,2]⟩ 35):=by kernel_rfl
theorem r19(B:Bs w):RtI w 2 19:=nr B rfl e19 rfl (by kernel_rfl) (All.mem (.cons ((r18 B).le (by decide)) .nil)) no0
theorem e20:og 20=bf 36 (cdF (Oc []) (Oc [19]) ⟨false,false,[]⟩ 36):=by kernel_rfl
theorem r20(B:Bs w):RtI w 3 20:=nr B rfl e20 rfl (by kernel_rfl) (All.mem (.cons ((r19 B).le (by decide)) .nil)) no0
theorem e21:og 21=bf 37 (cdF (Oc []) (Oc [20]) ⟨false,false,[]⟩ 37):=by kernel_rfl
theorem r21(B:Bs w):RtI w 4 21:=nr B rfl e21 rfl (by kernel_rfl) (All.mem (.cons ((r20 B).le (by decide)) .nil)) no0
theorem e22:og 22=bf 40 (cdF (Oc []) (Oc []) ⟨false,false,[]⟩ 40):=by kernel_rfl
theorem r22(B:Bs w):RtI w 1 22:=nr B rfl e22 rfl (by kernel_rfl) no0 no0
theorem e23:og 23=bf 41 (cdF (Oc []) (Oc [22]) ⟨false,false,[]⟩ 41):=by kernel_rfl
theorem r23(B:Bs w):RtI w 2 23:=nr B rfl e23 rfl (by kernel_rfl) (All.mem (.cons ((r22 B).le (by decide)) .nil)) no0
theorem e24:og 24=bf 42 (cdF (Oc []) (Oc [15]) ⟨false,false,[]⟩ 42):=by kernel_rfl
theorem r24(B:Bs w):RtI w 2 24:=nr B rfl e24 rfl (by kernel_rfl) (All.mem (.cons ((r15 B).le (by decide)) .nil)) no0
theorem e25:og 25=bf 43 (cdF (Oc []) (Oc [15,16]) ⟨false,false,[]⟩ 43):=by kernel_rfl
theorem r25(B:Bs w):RtI w 2 25:=nr B rfl e25 rfl (by kernel_rfl) (All.mem (.cons ((r15 B).le (by decide)) (.cons ((r16 B).le (by decide)) .nil))) no0
theorem e26:og 26=bf 44 (cdF (Oc []) (Oc []) ⟨false,false,[]⟩ 44):=by kernel_rfl
theorem r26(B:Bs w):RtI w 1 26:=nr B rfl e26 rfl (by kernel_rfl) no0 no0
theorem e27(c:Nat→List V→R):b27 c=bf 45 (cdF (Oc []) (Ocl [27,28,29,30,31] c [15,16,22,23,24,25,26]) ⟨false,false,[]⟩ 45):=by kernel_rfl
theorem e28(c:Nat→List V→R):b28 c=bf 46 (cdF (Oc []) (Ocl [27,28,29,30,31] c [15,16,22,23,24,25,26]) ⟨false,false,[]⟩ 46):=by kernel_rfl
theorem e29(c:Nat→List V→R):b29 c=bf 47 (cdF (Oc []) (Ocl [27,28,29,30,31] c [15,16,22,23,24,25,26]) ⟨false,false,[]⟩ 47):=by kernel_rfl
theorem e30(c:Nat→List V→R):b30 c=bf 48 (cdF (Oc []) (Ocl [27,28,29,30,31] c [15,16,22,23,24,25,26]) ⟨false,false,[]⟩ 48):=by kernel_rfl
theorem e31(c:Nat→List V→R):b31 c=bf 49 (cdF (Oc []) (Ocl [27,28,29,30,31] c [15,16,22,23,24,25,26]) ⟨false,false,[]⟩ 49):=by kernel_rfl
theorem s27:∀ (n p i:Nat),([27,28,29,30,31]:List Nat)[p]?=some i→∃ k m,kT[i]?=some k∧m.ln=false∧frOk i m=true∧cl27 (n + 1) p=bf k (cdF (Oc []) (Ocl [27,28,29,30,31] (cl27 n) [15,16,22,23,24,25,26]) m k)
 | n,0,_,rfl=>⟨45,⟨false,false,[]⟩,rfl,rfl,by kernel_rfl,e27 (cl27 n)⟩
 | n,1,_,rfl=>⟨46,⟨false,false,[]⟩,rfl,rfl,by kernel_rfl,e28 (cl27 n)⟩
 | n,2,_,rfl=>⟨47,⟨false,false,[]⟩,rfl,rfl,by kernel_rfl,e29 (cl27 n)⟩
 | n,3,_,rfl=>⟨48,⟨false,false,[]⟩,rfl,rfl,by kernel_rfl,e30 (cl27 n)⟩
 | n,4,_,rfl=>⟨49,⟨false,false,[]⟩,rfl,rfl,by kernel_rfl,e31 (cl27 n)⟩
theorem c27(B:Bs w):∀ (n p i:Nat),([27,28,29,30,31]:List Nat)[p]?=some i→RtF w (2 + n) i (cl27 n p):=clr B (fun _ _=>rfl) s27 (All.mem (.cons ((r15 B).le (by decide)) (.cons ((r16 B).le (by decide)) (.cons ((r22 B).le (by decide)) (.cons ((r23 B).le (by decide)) (.cons ((r24 B).le (by decide)) (.cons ((r25 B).le (by decide)) (.cons ((r26 B).le (by decide)) .nil))))))))
theorem g27:og 27=cl27 40 0:=by kernel_rfl
theorem r27(B:Bs w):RtI w 43 27:=by unfold RtI;rw[g27];exact(c27 B 40 0 27 rfl).le (by decide)
theorem g28:og 28=cl27 40 1:=by kernel_rfl
theorem r28(B:Bs w):RtI w 43 28:=by unfold RtI;rw[g28];exact(c27 B 40 1 28 rfl).le (by decide)
theorem g29:og 29=cl27 40 2:=by kernel_rfl
theorem r29(B:Bs w):RtI w 43 29:=by unfold RtI;rw[g29];exact(c27 B 40 2 29 rfl).le (by decide)
theorem g30:og 30=cl27 40 3:=by kernel_rfl
theorem r30(B:Bs w):RtI w 43 30:=by unfold RtI;rw[g30];exact(c27 B 40 3 30 rfl).le (by decide)
theorem g31:og 31=cl27 40 4:=by kernel_rfl
theorem r31(B:Bs w):RtI w 43 31:=by unfold RtI;rw[g31];exact(c27 B 40 4 31 rfl).le (by decide)
theorem e32:og 32=bf 50 (cdF (Oc []) (Oc [31]) ⟨false,false,[2]⟩ 50):=by kernel_rfl
theorem r32(B:Bs w):RtI w 44 32:=nr B rfl e32 rfl (by kernel_rfl) (All.mem (.cons ((r31 B).le (by decide)) .nil)) no0
theorem e33(c:Nat→List V→R):b33 c=bf 51 (cdF (Oc []) (Ocl [33] c [32]) ⟨false,false,[]⟩ 51):=by kernel_rfl
theorem s33:∀ (n p i:Nat),([33]:List Nat)[p]?=some i→∃ k m,kT[i]?=some k∧m.ln=false∧frOk i m=true∧cl33 (n + 1) p=bf k (cdF (Oc []) (Ocl [33] (cl33 n) [32]) m k)
 | n,0,_,rfl=>⟨51,⟨false,false,[]⟩,rfl,rfl,by kernel_rfl,e33 (cl33 n)⟩
theorem c33(B:Bs w):∀ (n p i:Nat),([33]:List Nat)[p]?=some i→RtF w (44 + n) i (cl33 n p):=clr B (fun _ _=>rfl) s33 (All.mem (.cons ((r32 B).le (by decide)) .nil))
theorem g33:og 33=cl33 40 0:=by kernel_rfl
theorem r33(B:Bs w):RtI w 85 33:=by unfold RtI;rw[g33];exact(c33 B 40 0 33 rfl).le (by decide)
theorem e34:og 34=bf 61 (cdF (Oc []) (Oc []) ⟨false,false,[]⟩ 61):=by kernel_rfl
theorem r34(B:Bs w):RtI w 1 34:=nr B rfl e34 rfl (by kernel_rfl) no0 no0
theorem e35:og 35=bf 62 (cdF (Oc []) (Oc []) ⟨false,false,[]⟩ 62):=by kernel_rfl
theorem r35(B:Bs w):RtI w 1 35:=nr B rfl e35 rfl (by kernel_rfl) no0 no0
theorem e36:og 36=bf 63 (cdF (Oc []) (Oc [34]) ⟨false,false,[]⟩ 63):=by kernel_rfl
theorem r36(B:Bs w):RtI w 2 36:=nr B rfl e36 rfl (by kernel_rfl) (All.mem (.cons ((r34 B).le (by decide)) .nil)) no0
theorem e37:og 37=bf 64 (cdF (Oc []) (Oc []) ⟨false,false,[2]⟩ 64):=by kernel_rfl
theorem r37(B:Bs w):RtI w 1 37:=nr B rfl e37 rfl (by kernel_rfl) no0 no0
theorem e38(c:Nat→List V→R):b38 c=bf 65 (cdF (Oc []) (Ocl [38] c [3,33,34,35,36,37]) ⟨false,false,[1]⟩ 65):=by kernel_rfl
theorem s38:∀ (n p i:Nat),([38]:List Nat)[p]?=some i→∃ k m,kT[i]?=some k∧m.ln=false∧frOk i m=true∧cl38 (n + 1) p=bf k (cdF (Oc []) (Ocl [38] (cl38 n) [3,33,34,35,36,37]) m k)
 | n,0,_,rfl=>⟨65,⟨false,false,[1]⟩,rfl,rfl,by kernel_rfl,e38 (cl38 n)⟩
theorem c38(B:Bs w):∀ (n p i:Nat),([38]:List Nat)[p]?=some i→RtF w (85 + n) i (cl38 n p):=clr B (fun _ _=>rfl) s38 (All.mem (.cons ((r3 B).le (by decide)) (.cons ((r33 B).le (by decide)) (.cons ((r34 B).le (by decide)) (.cons ((r35 B).le (by decide)) (.cons ((r36 B).le (by decide)) (.cons ((r37 B).le (by decide)) .nil)))))))
theorem g38:og 38=cl38 40 0:=by kernel_rfl
theorem r38(B:Bs w):RtI w 126 38:=by unfold RtI;rw[g38];exact(c38 B 40 0 38 rfl).le (by decide)
theorem e39:og 39=bf 66 (cdF (Oc []) (Oc []) ⟨false,false,[]⟩ 66):=by kernel_rfl
theorem r39(B:Bs w):RtI w 1 39:=nr B rfl e39 rfl (by kernel_rfl) no0 no0
theorem e40:og 40=bf 67 (cdF (Oc []) (Oc [39]) ⟨false,false,[]⟩ 67):=by kernel_rfl
theorem r40(B:Bs w):RtI w 2 40:=nr B rfl e40 rfl (by kernel_rfl) (All.mem (.cons ((r39 B).le (by decide)) .nil)) no0
theorem e43:og 43=bf 71 (cdF (Oc []) (Oc [9,34]) ⟨false,false,[]⟩ 71):=by kernel_rfl
theorem r43(B:Bs w):RtI w 5 43:=nr B rfl e43 rfl (by kernel_rfl) (All.mem (.cons ((r9 B).le (by decide)) (.cons ((r34 B).le (by decide)) .nil))) no0
theorem e41(c:Nat→List V→R):b41 c=bf 68 (cdF (Oc []) (Ocl [41,42] c [5,17,33,34,36,37,38,39,40,43]) ⟨false,false,[2,6]⟩ 68):=by kernel_rfl
theorem e42(c:Nat→List V→R):b42 c=bf 69 (cdF (Oc []) (Ocl [41,42] c [5,17,33,34,36,37,38,39,40,43]) ⟨false,false,[]⟩ 69):=by kernel_rfl
theorem s41:∀ (n p i:Nat),([41,42]:List Nat)[p]?=some i→∃ k m,kT[i]?=some k∧m.ln=false∧frOk i m=true∧cl41 (n + 1) p=bf k (cdF (Oc []) (Ocl [41,42] (cl41 n) [5,17,33,34,36,37,38,39,40,43]) m k)
 | n,0,_,rfl=>⟨68,⟨false,false,[2,6]⟩,rfl,rfl,by kernel_rfl,e41 (cl41 n)⟩
 | n,1,_,rfl=>⟨69,⟨false,false,[]⟩,rfl,rfl,by kernel_rfl,e42 (cl41 n)⟩
theorem c41(B:Bs w):∀ (n p i:Nat),([41,42]:List Nat)[p]?=some i→RtF w (126 + n) i (cl41 n p):=clr B (fun _ _=>rfl) s41 (All.mem (.cons ((r5 B).le (by decide)) (.cons ((r17 B).le (by decide)) (.cons ((r33 B).le (by decide)) (.cons ((r34 B).le (by decide)) (.cons ((r36 B).le (by decide)) (.cons ((r37 B).le (by decide)) (.cons ((r38 B).le (by decide)) (.cons ((r39 B).le (by decide)) (.cons ((r40 B).le (by decide)) (.cons ((r43 B).le (by decide)) .nil)))))))))))
theorem g41:og 41=cl41 40 0:=by kernel_rfl
theorem r41(B:Bs w):RtI w 167 41:=by unfold RtI;rw[g41];exact(c41 B 40 0 41 rfl).le (by decide)
theorem g42:og 42=cl41 40 1:=by kernel_rfl
theorem r42(B:Bs w):RtI w 167 42:=by unfold RtI;rw[g42];exact(c41 B 40 1 42 rfl).le (by decide)
theorem e44(c:Nat→List V→R):b44 c=bf 79 (cdF (Oc []) (Ocl [44] c [2,34,38,41,42]) ⟨false,false,[]⟩ 79):=by kernel_rfl
theorem s44:∀ (n p i:Nat),([44]:List Nat)[p]?=some i→∃ k m,kT[i]?=some k∧m.ln=false∧frOk i m=true∧cl44 (n + 1) p=bf k (cdF (Oc []) (Ocl [44] (cl44 n) [2,34,38,41,42]) m k)
 | n,0,_,rfl=>⟨79,⟨false,false,[]⟩,rfl,rfl,by kernel_rfl,e44 (cl44 n)⟩
theorem c44(B:Bs w):∀ (n p i:Nat),([44]:List Nat)[p]?=some i→RtF w (167 + n) i (cl44 n p):=clr B (fun _ _=>rfl) s44 (All.mem (.cons ((r2 B).le (by decide)) (.cons ((r34 B).le (by decide)) (.cons ((r38 B).le (by decide)) (.cons ((r41 B).le (by decide)) (.cons ((r42 B).le (by decide)) .nil))))))
theorem g44:og 44=cl44 40 0:=by kernel_rfl
theorem r44(B:Bs w):RtI w 208 44:=by unfold RtI;rw[g44];exact(c44 B 40 0 44 rfl).le (by decide)
theorem e45:og 45=bf 81 (cdF (Oc []) (Oc []) ⟨false,false,[]⟩ 81):=by kernel_rfl
theorem r45(B:Bs w):RtI w 1 45:=nr B rfl e45 rfl (by kernel_rfl) no0 no0
theorem e46(c:Nat→List V→R):b46 c=bf 82 (cdF (Oc []) (Ocl [46] c [38,41,45]) ⟨false,false,[]⟩ 82):=by kernel_rfl
theorem s46:∀ (n p i:Nat),([46]:List Nat)[p]?=some i→∃ k m,kT[i]?=some k∧m.ln=false∧frOk i m=true∧cl46 (n + 1) p=bf k (cdF (Oc []) (Ocl [46] (cl46 n) [38,41,45]) m k)
 | n,0,_,rfl=>⟨82,⟨false,false,[]⟩,rfl,rfl,by kernel_rfl,e46 (cl46 n)⟩
theorem c46(B:Bs w):∀ (n p i:Nat),([46]:List Nat)[p]?=some i→RtF w (167 + n) i (cl46 n p):=clr B (fun _ _=>rfl) s46 (All.mem (.cons ((r38 B).le (by decide)) (.cons ((r41 B).le (by decide)) (.cons ((r45 B).le (by decide)) .nil))))
theorem g46:og 46=cl46 40 0:=by kernel_rfl
theorem r46(B:Bs w):RtI w 208 46:=by unfold RtI;rw[g46];exact(c46 B 40 0 46 rfl).le (by decide)
theorem e47:og 47=bf 83 (cdF (Oc []) (Oc [46]) ⟨false,false,[]⟩ 83):=by kernel_rfl
theorem r47(B:Bs w):RtI w 209 47:=nr B rfl e47 rfl (by kernel_rfl) (All.mem (.cons ((r46 B).le (by decide)) .nil)) no0
theorem e48:og 48=bf 84 (cdF (Oc []) (Oc [46]) ⟨false,false,[]⟩ 84):=by kernel_rfl
theorem r48(B:Bs w):RtI w 209 48:=nr B rfl e48 rfl (by kernel_rfl) (All.mem (.cons ((r46 B).le (by decide)) .nil)) no0
theorem e49:og 49=bf 85 (cdF (Oc []) (Oc [17,42,48]) ⟨false,false,[]⟩ 85):=by kernel_rfl
theorem r49(B:Bs w):RtI w 210 49:=nr B rfl e49 rfl (by kernel_rfl) (All.mem (.cons ((r17 B).le (by decide)) (.cons ((r42 B).le (by decide)) (.cons ((r48 B).le (by decide)) .nil)))) no0
theorem e50(c:Nat→List V→R):b50 c=bf 86 (cdF (Oc []) (Ocl [50] c [38,47,49]) ⟨false,false,[]⟩ 86):=by kernel_rfl
theorem s50:∀ (n p i:Nat),([50]:List Nat)[p]?=some i→∃ k m,kT[i]?=some k∧m.ln=false∧frOk i m=true∧cl50 (n + 1) p=bf k (cdF (Oc []) (Ocl [50] (cl50 n) [38,47,49]) m k)
 | n,0,_,rfl=>⟨86,⟨false,false,[]⟩,rfl,rfl,by kernel_rfl,e50 (cl50 n)⟩
theorem c50(B:Bs w):∀ (n p i:Nat),([50]:List Nat)[p]?=some i→RtF w (210 + n) i (cl50 n p):=clr B (fun _ _=>rfl) s50 (All.mem (.cons ((r38 B).le (by decide)) (.cons ((r47 B).le (by decide)) (.cons ((r49 B).le (by decide)) .nil))))
theorem g50:og 50=cl50 40 0:=by kernel_rfl
theorem r50(B:Bs w):RtI w 251 50:=by unfold RtI;rw[g50];exact(c50 B 40 0 50 rfl).le (by decide)
theorem e51:og 51=bf 87 (cdF (Oc []) (Oc [44,50]) ⟨false,false,[]⟩ 87):=by kernel_rfl
theorem r51(B:Bs w):RtI w 252 51:=nr B rfl e51 rfl (by kernel_rfl) (All.mem (.cons ((r44 B).le (by decide)) (.cons ((r50 B).le (by decide)) .nil))) no0
theorem e52:og 52=bf 93 (cdF (Oc []) (Oc []) ⟨false,false,[]⟩ 93):=by kernel_rfl
theorem r52(B:Bs w):RtI w 1 52:=nr B rfl e52 rfl (by kernel_rfl) no0 no0
theorem e53:og 53=bf 94 (cdF (Oc []) (Oc []) ⟨false,false,[]⟩ 94):=by kernel_rfl
theorem r53(B:Bs w):RtI w 1 53:=nr B rfl e53 rfl (by kernel_rfl) no0 no0
theorem e54:og 54=bf 95 (cdF (Oc []) (Oc []) ⟨false,false,[]⟩ 95):=by kernel_rfl
theorem r54(B:Bs w):RtI w 1 54:=nr B rfl e54 rfl (by kernel_rfl) no0 no0
theorem e55:og 55=bf 96 (cdF (Oc []) (Oc [52]) ⟨false,false,[]⟩ 96):=by kernel_rfl
theorem r55(B:Bs w):RtI w 2 55:=nr B rfl e55 rfl (by kernel_rfl) (All.mem (.cons ((r52 B).le (by decide)) .nil)) no0
theorem e56:og 56=bf 97 (cdF (Oc []) (Oc []) ⟨false,false,[]⟩ 97):=by kernel_rfl
theorem r56(B:Bs w):RtI w 1 56:=nr B rfl e56 rfl (by kernel_rfl) no0 no0
theorem e57:og 57=bf 98 (cdF (Oc []) (Oc [55,56]) ⟨false,false,[]⟩ 98):=by kernel_rfl
theorem r57(B:Bs w):RtI w 3 57:=nr B rfl e57 rfl (by kernel_rfl) (All.mem (.cons ((r55 B).le (by decide)) (.cons ((r56 B).le (by decide)) .nil))) no0
theorem e58:og 58=bf 99 (cdF (Oc []) (Oc []) ⟨false,false,[]⟩ 99):=by kernel_rfl
theorem r58(B:Bs w):RtI w 1 58:=nr B rfl e58 rfl (by kernel_rfl) no0 no0
theorem e59:og 59=bf 100 (cdF (Oc []) (Oc []) ⟨false,false,[]⟩ 100):=by kernel_rfl
theorem r59(B:Bs w):RtI w 1 59:=nr B rfl e59 rfl (by kernel_rfl) no0 no0
theorem e60:og 60=bf 101 (cdF (Oc []) (Oc [1]) ⟨false,false,[]⟩ 101):=by kernel_rfl
theorem r60(B:Bs w):RtI w 3 60:=nr B rfl e60 rfl (by kernel_rfl) (All.mem (.cons ((r1 B).le (by decide)) .nil)) no0
theorem e61:og 61=bf 102 (cdF (Oc []) (Oc []) ⟨false,false,[]⟩ 102):=by kernel_rfl
theorem r61(B:Bs w):RtI w 1 61:=nr B rfl e61 rfl (by kernel_rfl) no0 no0
theorem e62:og 62=bf 103 (cdF (Oc []) (Oc [60,61]) ⟨false,false,[]⟩ 103):=by kernel_rfl
theorem r62(B:Bs w):RtI w 4 62:=nr B rfl e62 rfl (by kernel_rfl) (All.mem (.cons ((r60 B).le (by decide)) (.cons ((r61 B).le (by decide)) .nil))) no0
theorem e63:og 63=bf 104 (cdF (Oc []) (Oc []) ⟨false,false,[2]⟩ 104):=by kernel_rfl
theorem r63(B:Bs w):RtI w 1 63:=nr B rfl e63 rfl (by kernel_rfl) no0 no0
theorem e64:og 64=bf 106 (cdF (Oc []) (Oc []) ⟨false,false,[]⟩ 106):=by kernel_rfl
theorem r64(B:Bs w):RtI w 1 64:=nr B rfl e64 rfl (by kernel_rfl) no0 no0
theorem e65:og 65=bf 107 (cdF (Oc []) (Oc []) ⟨false,false,[]⟩ 107):=by kernel_rfl
theorem r65(B:Bs w):RtI w 1 65:=nr B rfl e65 rfl (by kernel_rfl) no0 no0
theorem e66:og 66=bf 108 (cdF (Oc []) (Oc []) ⟨false,false,[]⟩ 108):=by kernel_rfl
theorem r66(B:Bs w):RtI w 1 66:=nr B rfl e66 rfl (by kernel_rfl) no0 no0
theorem e67:og 67=bf 109 (cdF (Oc []) (Oc [3,64]) ⟨false,false,[]⟩ 109):=by kernel_rfl
theorem r67(B:Bs w):RtI w 4 67:=nr B rfl e67 rfl (by kernel_rfl) (All.mem (.cons ((r3 B).le (by decide)) (.cons ((r64 B).le (by decide)) .nil))) no0
theorem e68:og 68=bf 110 (cdF (Oc []) (Oc [7]) ⟨false,false,[]⟩ 110):=by kernel_rfl
theorem r68(B:Bs w):RtI w 2 68:=nr B rfl e68 rfl (by kernel_rfl) (All.mem (.cons ((r7 B).le (by decide)) .nil)) no0
theorem e69:og 69=bf 111 (cdF (Oc []) (Oc [67,68]) ⟨false,false,[]⟩ 111):=by kernel_rfl
theorem r69(B:Bs w):RtI w 5 69:=nr B rfl e69 rfl (by kernel_rfl) (All.mem (.cons ((r67 B).le (by decide)) (.cons ((r68 B).le (by decide)) .nil))) no0
theorem e70:og 70=bf 112 (cdF (Oc []) (Oc [5]) ⟨false,false,[]⟩ 112):=by kernel_rfl
theorem r70(B:Bs w):RtI w 4 70:=nr B rfl e70 rfl (by kernel_rfl) (All.mem (.cons ((r5 B).le (by decide)) .nil)) no0
theorem e71:og 71=bf 113 (cdF (Oc []) (Oc []) ⟨false,false,[]⟩ 113):=by kernel_rfl
theorem r71(B:Bs w):RtI w 1 71:=nr B rfl e71 rfl (by kernel_rfl) no0 no0
theorem e72:og 72=bf 114 (cdF (Oc []) (Oc [3,5]) ⟨false,false,[2]⟩ 114):=by kernel_rfl
theorem r72(B:Bs w):RtI w 4 72:=nr B rfl e72 rfl (by kernel_rfl) (All.mem (.cons ((r3 B).le (by decide)) (.cons ((r5 B).le (by decide)) .nil))) no0
theorem e73:og 73=bf 115 (cdF (Oc []) (Oc [6,64,69,70,71]) ⟨false,false,[3]⟩ 115):=by kernel_rfl
theorem r73(B:Bs w):RtI w 6 73:=nr B rfl e73 rfl (by kernel_rfl) (All.mem (.cons ((r6 B).le (by decide)) (.cons ((r64 B).le (by decide)) (.cons ((r69 B).le (by decide)) (.cons ((r70 B).le (by decide)) (.cons ((r71 B).le (by decide)) .nil)))))) no0
theorem e74:og 74=bf 116 (cdF (Oc []) (Oc [8,70]) ⟨false,false,[]⟩ 116):=by kernel_rfl
theorem r74(B:Bs w):RtI w 5 74:=nr B rfl e74 rfl (by kernel_rfl) (All.mem (.cons ((r8 B).le (by decide)) (.cons ((r70 B).le (by decide)) .nil))) no0
theorem e75:og 75=bf 117 (cdF (Oc []) (Oc [73,74]) ⟨false,false,[]⟩ 117):=by kernel_rfl
theorem r75(B:Bs w):RtI w 7 75:=nr B rfl e75 rfl (by kernel_rfl) (All.mem (.cons ((r73 B).le (by decide)) (.cons ((r74 B).le (by decide)) .nil))) no0
theorem e76:og 76=bf 118 (cdF (Oc []) (Oc [64,67,72]) ⟨false,false,[]⟩ 118):=by kernel_rfl
theorem r76(B:Bs w):RtI w 5 76:=nr B rfl e76 rfl (by kernel_rfl) (All.mem (.cons ((r64 B).le (by decide)) (.cons ((r67 B).le (by decide)) (.cons ((r72 B).le (by decide)) .nil)))) no0
theorem e77:og 77=bf 119 (cdF (Oc []) (Oc [0,2,60,62]) ⟨false,false,[]⟩ 119):=by kernel_rfl
theorem r77(B:Bs w):RtI w 5 77:=nr B rfl e77 rfl (by kernel_rfl) (All.mem (.cons ((r0 B).le (by decide)) (.cons ((r2 B).le (by decide)) (.cons ((r60 B).le (by decide)) (.cons ((r62 B).le (by decide)) .nil))))) no0
theorem e78:og 78=bf 123 (cdF (Oc []) (Oc [8,65,66,70,73,75]) ⟨false,false,[]⟩ 123):=by kernel_rfl
theorem r78(B:Bs w):RtI w 8 78:=nr B rfl e78 rfl (by kernel_rfl) (All.mem (.cons ((r8 B).le (by decide)) (.cons ((r65 B).le (by decide)) (.cons ((r66 B).le (by decide)) (.cons ((r70 B).le (by decide)) (.cons ((r73 B).le (by decide)) (.cons ((r75 B).le (by decide)) .nil))))))) no0
theorem e79:og 79=bf 125 (cdF (Oc []) (Oc []) ⟨false,false,[]⟩ 125):=by kernel_rfl
theorem r79(B:Bs w):RtI w 1 79:=nr B rfl e79 rfl (by kernel_rfl) no0 no0
theorem e80:og 80=bf 126 (cdF (Oc []) (Oc [67,72,78]) ⟨false,false,[]⟩ 126):=by kernel_rfl
theorem r80(B:Bs w):RtI w 9 80:=nr B rfl e80 rfl (by kernel_rfl) (All.mem (.cons ((r67 B).le (by decide)) (.cons ((r72 B).le (by decide)) (.cons ((r78 B).le (by decide)) .nil)))) no0
theorem e81:og 81=bf 127 (cdF (Oc []) (Oc [72,78]) ⟨false,false,[]⟩ 127):=by kernel_rfl
theorem r81(B:Bs w):RtI w 9 81:=nr B rfl e81 rfl (by kernel_rfl) (All.mem (.cons ((r72 B).le (by decide)) (.cons ((r78 B).le (by decide)) .nil))) no0
theorem e82:og 82=bf 129 (cdF (Oc []) (Oc [72,78]) ⟨false,false,[]⟩ 129):=by kernel_rfl
theorem r82(B:Bs w):RtI w 9 82:=nr B rfl e82 rfl (by kernel_rfl) (All.mem (.cons ((r72 B).le (by decide)) (.cons ((r78 B).le (by decide)) .nil))) no0
theorem e83:og 83=bf 130 (cdF (Oc []) (Oc [81]) ⟨false,false,[]⟩ 130):=by kernel_rfl
theorem r83(B:Bs w):RtI w 10 83:=nr B rfl e83 rfl (by kernel_rfl) (All.mem (.cons ((r81 B).le (by decide)) .nil)) no0
theorem e84:og 84=bf 132 (cdF (Oc []) (Oc []) ⟨false,false,[]⟩ 132):=by kernel_rfl
theorem r84(B:Bs w):RtI w 1 84:=nr B rfl e84 rfl (by kernel_rfl) no0 no0
theorem e85(c:Nat→List V→R):b85 c=bf 133 (cdF (Oc []) (Ocl [85] c [2,79,80,81,83,84]) ⟨false,false,[]⟩ 133):=by kernel_rfl
theorem s85:∀ (n p i:Nat),([85]:List Nat)[p]?=some i→∃ k m,kT[i]?=some k∧m.ln=false∧frOk i m=true∧cl85 (n + 1) p=bf k (cdF (Oc []) (Ocl [85] (cl85 n) [2,79,80,81,83,84]) m k)
 | n,0,_,rfl=>⟨133,⟨false,false,[]⟩,rfl,rfl,by kernel_rfl,e85 (cl85 n)⟩
theorem c85(B:Bs w):∀ (n p i:Nat),([85]:List Nat)[p]?=some i→RtF w (10 + n) i (cl85 n p):=clr B (fun _ _=>rfl) s85 (All.mem (.cons ((r2 B).le (by decide)) (.cons ((r79 B).le (by decide)) (.cons ((r80 B).le (by decide)) (.cons ((r81 B).le (by decide)) (.cons ((r83 B).le (by decide)) (.cons ((r84 B).le (by decide)) .nil)))))))
theorem g85:og 85=cl85 40 0:=by kernel_rfl
theorem r85(B:Bs w):RtI w 51 85:=by unfold RtI;rw[g85];exact(c85 B 40 0 85 rfl).le (by decide)
theorem e86:og 86=bf 134 (cdF (Oc []) (Oc [10]) ⟨false,false,[]⟩ 134):=by kernel_rfl
theorem r86(B:Bs w):RtI w 4 86:=nr B rfl e86 rfl (by kernel_rfl) (All.mem (.cons ((r10 B).le (by decide)) .nil)) no0
theorem e87:og 87=bf 135 (cdF (Oc []) (Oc [10,12,13,14,44,86]) ⟨false,false,[2]⟩ 135):=by kernel_rfl
theorem r87(B:Bs w):RtI w 209 87:=nr B rfl e87 rfl (by kernel_rfl) (All.mem (.cons ((r10 B).le (by decide)) (.cons ((r12 B).le (by decide)) (.cons ((r13 B).le (by decide)) (.cons ((r14 B).le (by decide)) (.cons ((r44 B).le (by decide)) (.cons ((r86 B).le (by decide)) .nil))))))) no0
theorem e88:og 88=bf 136 (cdF (Oc []) (Oc [13,14,44,87]) ⟨false,false,[]⟩ 136):=by kernel_rfl
theorem r88(B:Bs w):RtI w 210 88:=nr B rfl e88 rfl (by kernel_rfl) (All.mem (.cons ((r13 B).le (by decide)) (.cons ((r14 B).le (by decide)) (.cons ((r44 B).le (by decide)) (.cons ((r87 B).le (by decide)) .nil))))) no0
theorem e89:og 89=bf 137 (cdF (Oc []) (Oc [11,88]) ⟨false,false,[]⟩ 137):=by kernel_rfl
theorem r89(B:Bs w):RtI w 211 89:=nr B rfl e89 rfl (by kernel_rfl) (All.mem (.cons ((r11 B).le (by decide)) (.cons ((r88 B).le (by decide)) .nil))) no0
theorem e90:og 90=bf 139 (cdF (Oc []) (Oc []) ⟨false,false,[]⟩ 139):=by kernel_rfl
theorem r90(B:Bs w):RtI w 1 90:=nr B rfl e90 rfl (by kernel_rfl) no0 no0
theorem e91:og 91=bf 140 (cdF (Oc []) (Oc [54,57,58,59,90]) ⟨false,false,[]⟩ 140):=by kernel_rfl
theorem r91(B:Bs w):RtI w 4 91:=nr B rfl e91 rfl (by kernel_rfl) (All.mem (.cons ((r54 B).le (by decide)) (.cons ((r57 B).le (by decide)) (.cons ((r58 B).le (by decide)) (.cons ((r59 B).le (by decide)) (.cons ((r90 B).le (by decide)) .nil)))))) no0
theorem e92:og 92=bf 142 (cdF (Oc []) (Oc []) ⟨false,false,[]⟩ 142):=by kernel_rfl
theorem r92(B:Bs w):RtI w 1 92:=nr B rfl e92 rfl (by kernel_rfl) no0 no0
theorem e93:og 93=bf 143 (cdF (Oc []) (Oc [53,54,91]) ⟨false,false,[]⟩ 143):=by kernel_rfl
theorem r93(B:Bs w):RtI w 5 93:=nr B rfl e93 rfl (by kernel_rfl) (All.mem (.cons ((r53 B).le (by decide)) (.cons ((r54 B).le (by decide)) (.cons ((r91 B).le (by decide)) .nil)))) no0
theorem e94:og 94=bf 144 (cdF (Oc []) (Oc [53,54,92,93]) ⟨false,false,[]⟩ 144):=by kernel_rfl
theorem r94(B:Bs w):RtI w 6 94:=nr B rfl e94 rfl (by kernel_rfl) (All.mem (.cons ((r53 B).le (by decide)) (.cons ((r54 B).le (by decide)) (.cons ((r92 B).le (by decide)) (.cons ((r93 B).le (by decide)) .nil))))) no0
theorem e95:og 95=bf 145 (cdF (Oc []) (Oc [53,60,92,94]) ⟨false,false,[]⟩ 145):=by kernel_rfl
theorem r95(B:Bs w):RtI w 7 95:=nr B rfl e95 rfl (by kernel_rfl) (All.mem (.cons ((r53 B).le (by decide)) (.cons ((r60 B).le (by decide)) (.cons ((r92 B).le (by decide)) (.cons ((r94 B).le (by decide)) .nil))))) no0
theorem e96:og 96=bf 147 (cdF (Oc []) (Oc [54]) ⟨false,false,[]⟩ 147):=by kernel_rfl
theorem r96(B:Bs w):RtI w 2 96:=nr B rfl e96 rfl (by kernel_rfl) (All.mem (.cons ((r54 B).le (by decide)) .nil)) no0
theorem e97:og 97=bf 149 (cdF (Oc []) (Oc []) ⟨false,false,[1]⟩ 149):=by kernel_rfl
theorem r97(B:Bs w):RtI w 1 97:=nr B rfl e97 rfl (by kernel_rfl) no0 no0
theorem e98:og 98=bf 150 (cdF (Oc []) (Oc []) ⟨false,false,[2,3]⟩ 150):=by kernel_rfl
theorem r98(B:Bs w):RtI w 1 98:=nr B rfl e98 rfl (by kernel_rfl) no0 no0
theorem e99:og 99=bf 151 (cdF (Oc []) (Oc [53,63,95,96,97,98]) ⟨false,false,[]⟩ 151):=by kernel_rfl
theorem r99(B:Bs w):RtI w 8 99:=nr B rfl e99 rfl (by kernel_rfl) (All.mem (.cons ((r53 B).le (by decide)) (.cons ((r63 B).le (by decide)) (.cons ((r95 B).le (by decide)) (.cons ((r96 B).le (by decide)) (.cons ((r97 B).le (by decide)) (.cons ((r98 B).le (by decide)) .nil))))))) no0
theorem e100:og 100=bf 153 (cdF (Oc []) (Oc []) ⟨false,false,[]⟩ 153):=by kernel_rfl
theorem r100(B:Bs w):RtI w 1 100:=nr B rfl e100 rfl (by kernel_rfl) no0 no0
theorem e101:og 101=bf 154 (cdF (Oc []) (Oc []) ⟨false,false,[]⟩ 154):=by kernel_rfl
theorem r101(B:Bs w):RtI w 1 101:=nr B rfl e101 rfl (by kernel_rfl) no0 no0
theorem e102:og 102=bf 155 (cdF (Oc []) (Oc []) ⟨false,true,[]⟩ 155):=by kernel_rfl
theorem r102(B:Bs w):RtI w 1 102:=nr B rfl e102 rfl (by kernel_rfl) no0 no0
theorem e103:og 103=bl 156 (cdF (Oc []) (Oc []) ⟨true,false,[0]⟩ 156):=by kernel_rfl
theorem r103(B:Bs w):LtI w 1 103:=nl B rfl e103 rfl ⟨⟨⟨[nat_lit 97]⟩⟩,by kernel_rfl⟩ no0 no0
theorem e104:og 104=bl 157 (cdF (Oc []) (Oc [4,5]) ⟨true,false,[0]⟩ 157):=by kernel_rfl
theorem r104(B:Bs w):LtI w 4 104:=nl B rfl e104 rfl ⟨⟨⟨[nat_lit 97]⟩⟩,by kernel_rfl⟩ (All.mem (.cons ((r4 B).le (by decide)) (.cons ((r5 B).le (by decide)) .nil))) no0
theorem e105:og 105=bf 158 (cdF (Oc [103,104]) (Oc [6,100,102]) ⟨false,false,[1,2]⟩ 158):=by kernel_rfl
theorem r105(B:Bs w):RtI w 5 105:=nr B rfl e105 rfl (by kernel_rfl) (All.mem (.cons ((r6 B).le (by decide)) (.cons ((r100 B).le (by decide)) (.cons ((r102 B).le (by decide)) .nil)))) (All.mem (.cons ((r103 B).le (by decide)) (.cons ((r104 B).le (by decide)) .nil)))
theorem e106:og 106=bf 160 (cdF (Oc []) (Oc [7,100,105]) ⟨false,false,[3,5]⟩ 160):=by kernel_rfl
theorem r106(B:Bs w):RtI w 6 106:=nr B rfl e106 rfl (by kernel_rfl) (All.mem (.cons ((r7 B).le (by decide)) (.cons ((r100 B).le (by decide)) (.cons ((r105 B).le (by decide)) .nil)))) no0
theorem e107:og 107=bf 161 (cdF (Oc []) (Oc [100,101,105,106]) ⟨false,false,[6]⟩ 161):=by kernel_rfl
theorem r107(B:Bs w):RtI w 7 107:=nr B rfl e107 rfl (by kernel_rfl) (All.mem (.cons ((r100 B).le (by decide)) (.cons ((r101 B).le (by decide)) (.cons ((r105 B).le (by decide)) (.cons ((r106 B).le (by decide)) .nil))))) no0
theorem e108:og 108=bf 163 (cdF (Oc []) (Oc [76]) ⟨false,false,[]⟩ 163):=by kernel_rfl
theorem r108(B:Bs w):RtI w 6 108:=nr B rfl e108 rfl (by kernel_rfl) (All.mem (.cons ((r76 B).le (by decide)) .nil)) no0
theorem e109:og 109=bf 164 (cdF (Oc []) (Oc [65,72,73,75,77,99,108]) ⟨false,false,[]⟩ 164):=by kernel_rfl
theorem r109(B:Bs w):RtI w 9 109:=nr B rfl e109 rfl (by kernel_rfl) (All.mem (.cons ((r65 B).le (by decide)) (.cons ((r72 B).le (by decide)) (.cons ((r73 B).le (by decide)) (.cons ((r75 B).le (by decide)) (.cons ((r77 B).le (by decide)) (.cons ((r99 B).le (by decide)) (.cons ((r108 B).le (by decide)) .nil)))))))) no0
theorem e110:og 110=bf 165 (cdF (Oc []) (Oc []) ⟨false,false,[]⟩ 165):=by kernel_rfl
theorem r110(B:Bs w):RtI w 1 110:=nr B rfl e110 rfl (by kernel_rfl) no0 no0
theorem e111:og 111=bf 166 (cdF (Oc []) (Oc [4,6,65,66,110]) ⟨false,false,[]⟩ 166):=by kernel_rfl
theorem r111(B:Bs w):RtI w 4 111:=nr B rfl e111 rfl (by kernel_rfl) (All.mem (.cons ((r4 B).le (by decide)) (.cons ((r6 B).le (by decide)) (.cons ((r65 B).le (by decide)) (.cons ((r66 B).le (by decide)) (.cons ((r110 B).le (by decide)) .nil)))))) no0
theorem e112:og 112=bf 167 (cdF (Oc []) (Oc [67,68,72,108]) ⟨false,false,[]⟩ 167):=by kernel_rfl
theorem r112(B:Bs w):RtI w 7 112:=nr B rfl e112 rfl (by kernel_rfl) (All.mem (.cons ((r67 B).le (by decide)) (.cons ((r68 B).le (by decide)) (.cons ((r72 B).le (by decide)) (.cons ((r108 B).le (by decide)) .nil))))) no0
theorem e114:og 114=bf 169 (cdF (Oc []) (Oc []) ⟨false,false,[]⟩ 169):=by kernel_rfl
theorem r114(B:Bs w):RtI w 1 114:=nr B rfl e114 rfl (by kernel_rfl) no0 no0
theorem e113:og 113=bf 168 (cdF (Oc []) (Oc [71,107,110,111,112,114]) ⟨false,false,[]⟩ 168):=by kernel_rfl
theorem r113(B:Bs w):RtI w 8 113:=nr B rfl e113 rfl (by kernel_rfl) (All.mem (.cons ((r71 B).le (by decide)) (.cons ((r107 B).le (by decide)) (.cons ((r110 B).le (by decide)) (.cons ((r111 B).le (by decide)) (.cons ((r112 B).le (by decide)) (.cons ((r114 B).le (by decide)) .nil))))))) no0
theorem e115:og 115=bf 170 (cdF (Oc []) (Oc [72,78,108,109,113]) ⟨false,false,[]⟩ 170):=by kernel_rfl
theorem r115(B:Bs w):RtI w 10 115:=nr B rfl e115 rfl (by kernel_rfl) (All.mem (.cons ((r72 B).le (by decide)) (.cons ((r78 B).le (by decide)) (.cons ((r108 B).le (by decide)) (.cons ((r109 B).le (by decide)) (.cons ((r113 B).le (by decide)) .nil)))))) no0
theorem e116:og 116=bf 172 (cdF (Oc []) (Oc [17,21,40,41]) ⟨false,false,[3]⟩ 172):=by kernel_rfl
theorem r116(B:Bs w):RtI w 168 116:=nr B rfl e116 rfl (by kernel_rfl) (All.mem (.cons ((r17 B).le (by decide)) (.cons ((r21 B).le (by decide)) (.cons ((r40 B).le (by decide)) (.cons ((r41 B).le (by decide)) .nil))))) no0
theorem e117:og 117=bf 173 (cdF (Oc []) (Oc [38,45,51,116]) ⟨false,false,[2]⟩ 173):=by kernel_rfl
theorem r117(B:Bs w):RtI w 253 117:=nr B rfl e117 rfl (by kernel_rfl) (All.mem (.cons ((r38 B).le (by decide)) (.cons ((r45 B).le (by decide)) (.cons ((r51 B).le (by decide)) (.cons ((r116 B).le (by decide)) .nil))))) no0
theorem e118:og 118=bf 175 (cdF (Oc []) (Oc [10,16,17,117]) ⟨false,false,[]⟩ 175):=by kernel_rfl
theorem r118(B:Bs w):RtI w 254 118:=nr B rfl e118 rfl (by kernel_rfl) (All.mem (.cons ((r10 B).le (by decide)) (.cons ((r16 B).le (by decide)) (.cons ((r17 B).le (by decide)) (.cons ((r117 B).le (by decide)) .nil))))) no0
theorem e119:og 119=bf 176 (cdF (Oc []) (Oc [78,82,108]) ⟨false,false,[]⟩ 176):=by kernel_rfl
theorem r119(B:Bs w):RtI w 10 119:=nr B rfl e119 rfl (by kernel_rfl) (All.mem (.cons ((r78 B).le (by decide)) (.cons ((r82 B).le (by decide)) (.cons ((r108 B).le (by decide)) .nil)))) no0
theorem e120(c:Nat→List V→R):b120 c=bf 177 (cdF (Oc []) (Ocl [120,121] c [9,15,16,17,21,79,81,83,85,118,119]) ⟨false,false,[]⟩ 177):=by kernel_rfl
theorem e121(c:Nat→List V→R):b121 c=bf 179 (cdF (Oc []) (Ocl [120,121] c [9,15,16,17,21,79,81,83,85,118,119]) ⟨false,false,[]⟩ 179):=by kernel_rfl
theorem s120:∀ (n p i:Nat),([120,121]:List Nat)[p]?=some i→∃ k m,kT[i]?=some k∧m.ln=false∧frOk i m=true∧cl120 (n + 1) p=bf k (cdF (Oc []) (Ocl [120,121] (cl120 n) [9,15,16,17,21,79,81,83,85,118,119]) m k)
 | n,0,_,rfl=>⟨177,⟨false,false,[]⟩,rfl,rfl,by kernel_rfl,e120 (cl120 n)⟩
 | n,1,_,rfl=>⟨179,⟨false,false,[]⟩,rfl,rfl,by kernel_rfl,e121 (cl120 n)⟩
theorem c120(B:Bs w):∀ (n p i:Nat),([120,121]:List Nat)[p]?=some i→RtF w (254 + n) i (cl120 n p):=clr B (fun _ _=>rfl) s120 (All.mem (.cons ((r9 B).le (by decide)) (.cons ((r15 B).le (by decide)) (.cons ((r16 B).le (by decide)) (.cons ((r17 B).le (by decide)) (.cons ((r21 B).le (by decide)) (.cons ((r79 B).le (by decide)) (.cons ((r81 B).le (by decide)) (.cons ((r83 B).le (by decide)) (.cons ((r85 B).le (by decide)) (.cons ((r118 B).le (by decide)) (.cons ((r119 B).le (by decide)) .nil))))))))))))
theorem g120:og 120=cl120 40 0:=by kernel_rfl
theorem r120(B:Bs w):RtI w 295 120:=by unfold RtI;rw[g120];exact(c120 B 40 0 120 rfl).le (by decide)
theorem g121:og 121=cl120 40 1:=by kernel_rfl
theorem r121(B:Bs w):RtI w 295 121:=by unfold RtI;rw[g121];exact(c120 B 40 1 121 rfl).le (by decide)
theorem e122:og 122=bf 180 (cdF (Oc []) (Oc [12,117]) ⟨false,false,[]⟩ 180):=by kernel_rfl
theorem r122(B:Bs w):RtI w 254 122:=nr B rfl e122 rfl (by kernel_rfl) (All.mem (.cons ((r12 B).le (by decide)) (.cons ((r117 B).le (by decide)) .nil))) no0
theorem e123:og 123=bf 181 (cdF (Oc []) (Oc [13,81,85,89,115,121,122]) ⟨false,false,[6]⟩ 181):=by kernel_rfl
theorem r123(B:Bs w):RtI w 296 123:=nr B rfl e123 rfl (by kernel_rfl) (All.mem (.cons ((r13 B).le (by decide)) (.cons ((r81 B).le (by decide)) (.cons ((r85 B).le (by decide)) (.cons ((r89 B).le (by decide)) (.cons ((r115 B).le (by decide)) (.cons ((r121 B).le (by decide)) (.cons ((r122 B).le (by decide)) .nil)))))))) no0
theorem e124:og 124=bf 182 (cdF (Oc []) (Oc [12,44,45,51,123]) ⟨false,false,[]⟩ 182):=by kernel_rfl
theorem r124(B:Bs w):RtI w 297 124:=nr B rfl e124 rfl (by kernel_rfl) (All.mem (.cons ((r12 B).le (by decide)) (.cons ((r44 B).le (by decide)) (.cons ((r45 B).le (by decide)) (.cons ((r51 B).le (by decide)) (.cons ((r123 B).le (by decide)) .nil)))))) no0
theorem e125(c:Nat→List V→R):b125 c=bf 186 (cdF (Oc []) (Ocl [125] c []) ⟨false,false,[]⟩ 186):=by kernel_rfl
theorem s125:∀ (n p i:Nat),([125]:List Nat)[p]?=some i→∃ k m,kT[i]?=some k∧m.ln=false∧frOk i m=true∧cl125 (n + 1) p=bf k (cdF (Oc []) (Ocl [125] (cl125 n) []) m k)
 | n,0,_,rfl=>⟨186,⟨false,false,[]⟩,rfl,rfl,by kernel_rfl,e125 (cl125 n)⟩
theorem c125(B:Bs w):∀ (n p i:Nat),([125]:List Nat)[p]?=some i→RtF w (0 + n) i (cl125 n p):=clr B (fun _ _=>rfl) s125 no0
theorem g125:og 125=cl125 40 0:=by kernel_rfl
theorem r125(B:Bs w):RtI w 41 125:=by unfold RtI;rw[g125];exact(c125 B 40 0 125 rfl).le (by decide)
end
end Mine
end
noncomputable section
open PySem PySem.W PyProof.Rows
namespace Mine
open K (R D DL X Orc Rec TgL)
variable{w:Pk}{A:Around}{s:Shared}{N N' N0 N1:Addr→Prop}{h h' hB hC:Heap}{c:Cx}{env:Env}{ρ:Rho}{ln:Option Addr}{o o':Nat→Addr}{z:V}{m:Md}{O OL:Orc}
noncomputable def stA(n:Nat):Stmt:=(fB 185).getD n (.Pass ⟨0,0,0,0⟩)
theorem fB185:fB 185=[stA 0,stA 1,stA 2]:=by kernel_rfl
noncomputable section
noncomputable def mT:Md:=⟨true,false,[0]⟩
noncomputable def k1:D:=K.cLit (.int (.ofNat (.succ (nat_lit 0))))
noncomputable def k0:D:=K.cLit (.int (.ofNat .zero))
noncomputable def b1:D:=K.cSub (K.cN true 0) k1
noncomputable def b0:D:=K.cSub (K.cN true 0) k0
noncomputable def codeA1:X:=K.xSetI 0 k1 (K.cBin .Add b1 k1)
noncomputable def codeA2:D:=K.cCmp .LtE b1 (K.cBi .len (K.cons b0 K.nil))
noncomputable def codeA2x:D:=K.cSub b0 (K.cBin .Sub b1 k1)
noncomputable def codeA3:D:=K.cBin .Mod (K.cBin .Add (K.cBin .Mult (K.cLit (.int (.ofNat (.succ (nat_lit 3))))) b1) (K.cBin .FloorDiv b1 (K.cLit (.int (.ofNat (.succ (nat_lit 1))))))) (K.cN false 1)
theorem shA1(OL O:Orc):cS OL (K.cE O 61) mT (cxF 185) 60 (stA 0)=codeA1:=by kernel_rfl
theorem shA2':∃ t n x y p1 p2 p3 p4 p5,stA 1=.If t [.Return (some (.BinOp (.Call (.Name n p1) [x] [] p2) .Mod y p3)) p4] [] p5∧n=s_abs∧(∀ O,K.cE O 61 (cxF 185) false t=codeA2)∧(∀ O,K.cE O 61 (cxF 185) false x=codeA2x)∧(∀ O,K.cE O 61 (cxF 185) false y=K.cN false 1)∧noStar x=true:=
 ⟨_,_,_,_,_,_,_,_,_,rfl,by kernel_rfl,fun _=>by kernel_rfl,fun _=>by kernel_rfl,fun _=>by kernel_rfl,by kernel_rfl⟩
theorem shA3:∃ e p,stA 2=.Return (some e) p∧∀ O,K.cE O 61 (cxF 185) false e=codeA3:=⟨_,_,rfl,fun _=>by kernel_rfl⟩
theorem absT:(cxF 185).isGlob s_abs=true∧biOf s_abs 1=some .abs∧idxS s_abs 0 fnsT=none:=⟨by kernel_rfl,by kernel_rfl,by kernel_rfl⟩
noncomputable def takeV(xs:List Int)(k m:Nat):Int:=if k + 1≤xs.length then Int.fmod ((xs.getD k 0).natAbs:Int) m else Int.fmod (4 * ((k:Int) + 1) + Int.fdiv ((k:Int) + 1) 2) m
noncomputable def rhoT(vs:List V)(k m:Nat):Rho:=[.ow (.list [.list vs,.int (k:Int)]),.va (.int (m:Int))]
theorem lt5{P:Nat→Prop}{k:Nat}(h:k < 5)(p0:P 0)(p1:P 1)(p2:P 2)(p3:P 3)(p4:P 4):P k:=by
 rcases (by omega:k=0∨k=1∨k=2∨k=3∨k=4) with rfl | rfl | rfl | rfl | rfl <;> assumption
theorem evA1(vs:List V)(k m:Nat)(hk:k < 5)(kc kn:Rho→R):codeA1 kc kn (rhoT vs k m)=kn (rhoT vs (k + 1) m):=by
 exact lt5 (P:=fun k=>codeA1 kc kn (rhoT vs k m)=kn (rhoT vs (k + 1) m)) hk rfl rfl rfl rfl rfl
theorem okL_of{l:List V}{r:R}(h:l.length≤1000000):K.okL l r=r:=by
 unfold K.okL
 rw[K.lenK_eq,Nat.ble_eq_true_of_le h];rfl
theorem evA2(vs:List V)(k m:Nat)(hk:k < 5)(hl:vs.length≤1000000)(f:V→R):codeA2 (rhoT vs (k + 1) m) f=if k + 1≤vs.length then f (.bool true) else f (.bool false):=by
 have e:codeA2 (rhoT vs (k + 1) m) f=K.okL vs (K.sN (K.lenK vs) fun n=>K.cmpK .LtE (.int ((k + 1:Nat):Int)) (.int (Int.ofNat n)) (f (.bool true)) (f (.bool false))):=by
  match k,hk with
  | 0,_=>rfl
  | 1,_=>rfl
  | 2,_=>rfl
  | 3,_=>rfl
  | 4,_=>rfl
 rw[e,okL_of hl,K.sN_eq,K.lenK_eq]
 show K.ifB (K.ltI (Int.ofNat vs.length) ((k + 1:Nat):Int)) (f (.bool false)) (f (.bool true))=_
 rw[K.ltI_eq,K.ifB_if]
 by_cases q:k + 1≤vs.length
 ·rw[if_pos q,if_neg]
  simp only[decide_eq_true_eq]
  show ¬ ((vs.length:Int) < ((k + 1:Nat):Int))
  omega
 ·rw[if_neg q,if_pos]
  simp only[decide_eq_true_eq]
  show((vs.length:Int) < ((k + 1:Nat):Int))
  omega
theorem getK_of{α:Type}:∀ {n:Nat} {l:List α} {x:α} {k:α→R},l[n]?=some x→K.getK n l k=k x
 | 0,[],_,_,h=>by simp at h
 | 0,a::l,x,k,h=>by simp at h;subst h;rfl
 | n + 1,[],_,_,h=>by simp at h
 | n + 1,a::l,x,k,h=>getK_of (n:=n) (l:=l) (by simpa using h)
theorem evA2x(vs:List V)(k m:Nat)(hk:k < 5){x:V}(hx:vs[k]?=some x)(f:V→R):codeA2x (rhoT vs (k + 1) m) f=f x:=by
 have e:codeA2x (rhoT vs (k + 1) m) f=K.getK k vs f:=lt5 (P:=fun k=>codeA2x (rhoT vs (k + 1) m) f=K.getK k vs f) hk rfl rfl rfl rfl rfl
 rw[e];exact getK_of hx
theorem evA3(vs:List V)(k m:Nat)(hk:k < 5)(hm:m=3∨m=4)(f:V→R):codeA3 (rhoT vs (k + 1) m) f=f (.int (Int.fmod (4 * ((k:Int) + 1) + Int.fdiv ((k:Int) + 1) 2) m)):=by
 rcases hm with rfl | rfl
 ·exact lt5 (P:=fun k=>codeA3 (rhoT vs (k + 1) 3) f=f (.int (Int.fmod (4 * ((k:Int) + 1) + Int.fdiv ((k:Int) + 1) 2) (3:Nat)))) hk rfl rfl rfl rfl rfl
 ·exact lt5 (P:=fun k=>codeA3 (rhoT vs (k + 1) 4) f=f (.int (Int.fmod (4 * ((k:Int) + 1) + Int.fdiv ((k:Int) + 1) 2) (4:Nat)))) hk rfl rfl rfl rfl rfl
end
noncomputable def onlyK{α:Type}(x:α):α→R:=fun v=>open Classical in if v=x then some .none else none
theorem onlyK_self{α:Type}(x:α):onlyK x x=some .none:=by unfold onlyK;exact if_pos rfl
theorem onlyK_some{α:Type}{x v:α}(h:onlyK x v=some z):v=x:=by
 unfold onlyK at h
 by_cases q:v=x
 ·exact q
 ·rw[if_neg q]at h;cases h
theorem okTk:OkFn (cxF 185) (fP 185) (fS 185):=okFn_ok rfl (by kernel_rfl)
theorem lenT:(fP 185).args.length=2∧(cxF 185).ls.length=2:=⟨by kernel_rfl,by kernel_rfl⟩
theorem slotT:∃ x,(cxF 185).slot x=some 0:=⟨⟨⟨[nat_lit 98,nat_lit 111,nat_lit 120]⟩⟩,by kernel_rfl⟩
theorem take_ok(B:Bs w){f:Str}(hf:FnAt w f (fP 185) (fB 185) (fS 185))(hA:OkA A 3){a L0:Addr}{t0:Tok}{xs:List Int}{k mm:Nat}{Q:Value→Shared→Prop}(hk:k < 5)(hmm:mm=3∨mm=4)(hxs:xs.length≤1000000)
  (ha:w.fn f=some (.ref a)) (gi:GI w fnsT litsT N0 hB) (l0:Live N0 hB) (kp:Kp hB s.heap) (dL:hB.get? L0=none) (n0:∀ a,N0 a→N a) (i0:∀ a,N a→N0 a∨hB.get? a=none) (lv:Live N s.heap) (nL:N L0) (rx:Rb w N true s.heap (.ref L0) (.list [.list (xs.map .int),.int (k:Int)]))
  (out:∀ h' tk t,KpB (fun b=>b=L0) s.heap h'→Rb w N true h' (.ref L0) (.list [.list (xs.map .int),.int ((k + 1:Nat):Int)])→Q (.int (takeV xs k mm) t) (sx s h' tk)):wpAny (model prog w.w) A (call (.ref a) [.ref L0,.int (mm:Int) t0]) Q E s:=by
 have hh:A.handled=none:=hA.1
 have hu:A.units + 3 + 80 < cLine:=by have:=hA.2.2;omega
 have kc:Kp hB (cut (fun b=>b=L0) s.heap):=fun b ob e=>by
  rw[cut_some fun q=>by subst q;rw[dL]at e;cases e];exact kp b ob e
 have gi':GI w fnsT litsT (fun b=>N b∧b≠L0) (cut (fun b=>b=L0) s.heap):=(gi.more fun b q=>i0 b q.1).keeps kc
 have ii:∀ b,N b→(N b∧b≠L0)∨(cut (fun b=>b=L0) s.heap).get? b=none:=fun b q=>by
  by_cases e:b=L0
  ·exact .inr (cut_none e)
  ·exact .inl ⟨q,e⟩
 have hl:([.ref L0,.int (mm:Int) t0]:List Value).length=(fP 185).args.length:=by rw[lenT.1];rfl
 refine wpAny_call (call_fn (by have:=hA.2.1;omega) B.lim hf okTk ha (gi.base.trans kp) hl fun cd h₁ tk F X=>?_)
 have FF:=fn_start (c:=cxF 185) (ρ0:=rhoT (xs.map .int) k mm) (ln:=some L0) (N0:=fun b=>N b∧b≠L0) (N:=N) okTk gi' (fun b q=>by obtain⟨ob,e⟩:=lv b q.1;exact⟨ob,by rw[cut_some (W:=fun b=>b=L0) q.2];exact e⟩) cut_kp (fun _ q=>q.1) ii lv hl (by rw[lenT.1];rfl) (fun j v sl ev es=>by
  match j,ev,es with
  | 0,ev,es=>
   simp [rhoT]at ev es
   subst ev es
   exact⟨rfl,L0,rfl,rfl,rx,rfl⟩
  | 1,ev,es=>
   simp [rhoT]at ev es
   subst ev es
   exact rb_int _ _ _ _
  | j + 2,ev,es=>simp at ev) (fun L1 q=>by cases q;exact⟨nL,cut_none rfl,⟨_,rfl⟩,slotT⟩) rfl F X
 have e0:rhoT (xs.map .int) k mm++List.replicate ((cxF 185).ls.length - (fP 185).args.length) Sl.un=rhoT (xs.map .int) k mm:=by
  rw[lenT.1,lenT.2];exact List.append_nil _
 rw[e0]at FF
 have hc:∀ env,CallOk w (A.deeper env) (fun _ _=>none) fnsT litsT freshT:=fun env f i xs z _ h=>nomatch h
 have hL:∀ env,LendOk w (A.deeper env) (fun _ _=>none) fnsT litsT:=fun env f i x ds z _ h=>nomatch h
 obtain⟨HD,HT⟩:=cE_snd (w:=w) (A:=A.deeper (envOfC f (fS 185) s.heap.objs.size a cd)) (O:=fun _ _=>none) hh hu 61 (cxF 185) (hc _)
 rw[fB185]
 have g1:cS (fun _ _=>none) (K.cE (fun _ _=>none) 61) mT (cxF 185) 60 (stA 0) (fun _=>none) (onlyK (rhoT (xs.map .int) (k + 1) mm)) (rhoT (xs.map .int) k mm)=some .none:=by
  rw[shA1,evA1 _ _ _ hk]
  exact onlyK_self _
 have X1:=cS_ok (w:=w) (A:=A.deeper (envOfC f (fS 185) s.heap.objs.size a cd)) (O:=fun _ _=>none) (OL:=fun _ _=>none) (m:=mT) (c:=cxF 185) (k:=60) hh hu (hc _) (hL _) 60 (stA 0)
 refine wpAny_execs_cons (X1 _ (some L0) _ _ _ _ _ _ (sx s h₁ tk) _ _ _ _ (fun q=>nomatch q) FF g1 fun fl h2 t2 P=>?_)
 cases fl with
 | brk=>exact P.elim
 | cont=>obtain⟨_,_,_,_,e⟩:=P;cases e
 | ret v=>obtain⟨q,_⟩:=P;cases q
 | next=>
  refine bc fun gG=>?_
  obtain⟨o2,N2,ρ2,F2,e⟩:=P
  have e:=onlyK_some e
  subst e
  have fin:∀ h3 t3 u,Kp h2 h3→Q (.int (takeV xs k mm) u) (sx s h3 t3):=fun h3 t3 u k3=>by
   have F3:=F2.keeps k3
   have hs:(rhoT (xs.map .int) (k + 1) mm)[0]?=some (.ow (.list [.list (xs.map .int),.int ((k + 1:Nat):Int)])):=rfl
   refine bc fun gG=>?_
   obtain⟨eo,_⟩:=F3.lent L0 rfl
   obtain⟨q1,_,_,_,q5,y,hy⟩:=F3.ownN 0 _ hs
   obtain⟨_,r⟩:=F3.own y 0 _ hy hs
   refine gG ?_
   rw[eo]at r q1
   refine out h3 t3 u (fun b ob nb e=>F3.kc b ob (fun q=>nb (by cases q;rfl)) e) (r.less fun b q=>?_)
   by_cases e:b=L0
   ·subst e;exact q1
   ·exact F3.n0 b ⟨q,e⟩
  have hxl:(xs.map (fun i=>(PyData.int i:V))).length=xs.length:=List.length_map ..
  obtain⟨t,nm,x,y,p1,p2,p3,p4,p5,eA,rfl,et,ex,ey,hns⟩:=shA2'
  refine gG ?_
  refine wpAny_execs_cons ?_
  rw[eA]
  have ht:=HT t
  rw[et]at ht
  have gt:codeA2 (rhoT (xs.map .int) (k + 1) mm) (fun v=>K.vTrue v (if k + 1≤xs.length then some .none else none) (if k + 1≤xs.length then none else some .none))=some .none:=by
   rw[evA2 _ _ _ hk (by rw[hxl];exact hxs),hxl]
   by_cases q:k + 1≤xs.length
   ·rw[if_pos q]
    show(if k + 1≤xs.length then some PyData.none else none)=_
    rw[if_pos q]
   ·rw[if_neg q]
    show(if k + 1≤xs.length then none else some PyData.none)=_
    rw[if_neg q]
  refine wpAny_If (ht.go (s:=(sx s h2 t2)) F2.cd gt fun tt h3 t3 htt k3=>?_)
  cases tt with
  | true=>
   have q:k + 1≤xs.length:=by
    rcases Decidable.em (k + 1≤xs.length) with q | q
    ·exact q
    ·simp [if_neg q]at htt
   simp only[if_true]
   have F3:=F2.keeps k3
   have hkx:xs[k]?=some (xs.getD k 0):=by rw[List.getD_eq_getElem?_getD,List.getElem?_eq_getElem (by omega)];rfl
   refine wpAny_execs_cons (wpAny_Return_some (wpAny_BinOp ?_))
   refine bc fun gG=>?_
   obtain⟨a1,a2,a3⟩:=absT
   obtain⟨e2,e3⟩:=F3.gi.bi s_abs 1 .abs a3 a2
   refine gG ?_
   refine wpAny_Call_NameR (ld_global F3.e0 a1 F3.gi.g F3.gi.b (.inr ⟨e2,e3⟩) ?_)
   rw[starEach_eq (by simp [hns])]
   have hx:=HD false x
   rw[ex]at hx
   have gx:codeA2x (rhoT (xs.map .int) (k + 1) mm) (onlyK (.int (xs.getD k 0)))=some .none:=by
    rw[evA2x _ _ _ hk (x:=.int (xs.getD k 0)) (by rw[List.getElem?_map,hkx];rfl)]
    exact onlyK_self _
   refine Calls.callWith_builtin rfl (Calls.evalArgs_plain (Calls.spliced_cons (hx.go (s:=(sx s h3 t3)) F3.cd gx fun v u h4 t4 gv k4 rv=>Calls.spliced_nil ?_)))
   have gv:=onlyK_some gv
   subst gv
   refine bc fun gG=>?_
   obtain⟨t5,rfl⟩:=rb_int_inv rv
   refine gG ?_
   refine call_abs_int fun t6 t7=>?_
   have hy:=HD false y
   rw[ey]at hy
   have F4:=F3.keeps k4
   have gy:K.cN false 1 (rhoT (xs.map .int) (k + 1) mm) (onlyK (.int (mm:Int)))=some .none:=onlyK_self _
   refine hy.go (s:=(sx s h4 t7)) F4.cd gy fun v u h5 t8 gv k5 rv=>?_
   have gv:=onlyK_some gv
   subst gv
   refine bc fun gG=>?_
   obtain⟨t9,rfl⟩:=rb_int_inv rv
   refine gG ?_
   refine mod_int' (by rcases hmm with rfl | rfl <;> decide) ?_
   have e1:(if xs.getD k 0 < 0 then -(xs.getD k 0) else xs.getD k 0)=((xs.getD k 0).natAbs:Int):=by split <;> omega
   have:=fin h5 (t8 + 1) t8 (k3.trans (k4.trans k5))
   unfold takeV at this
   rw[if_pos q]at this
   rw[e1]
   exact this
  | false=>
   have q:¬ k + 1≤xs.length:=fun q=>by simp [if_pos q]at htt
   simp only[Bool.false_eq_true,if_false]
   refine wpAny_execs_nil ?_
   refine bc fun gG=>?_
   obtain⟨e,p,eB,ee⟩:=shA3
   refine gG ?_
   rw[eB]
   have hx:=HD false e
   rw[ee]at hx
   have gx:codeA3 (rhoT (xs.map .int) (k + 1) mm) (onlyK (.int (Int.fmod (4 * ((k:Int) + 1) + Int.fdiv ((k:Int) + 1) 2) mm)))=some .none:=by
    rw[evA3 _ _ _ hk hmm]
    exact onlyK_self _
   have F3:=F2.keeps k3
   refine wpAny_execs_cons (wpAny_Return_some (hx.go (s:=(sx s h3 t3)) F3.cd gx fun v u h4 t4 gv k4 rv=>?_))
   have gv:=onlyK_some gv
   subst gv
   refine bc fun gG=>?_
   obtain⟨t5,rfl⟩:=rb_int_inv rv
   refine gG ?_
   have:=fin h4 t4 t5 (k3.trans k4)
   unfold takeV at this
   rw[if_neg q]at this
   exact this
noncomputable def deadObj:Obj:={ cls:=.none,data:=.freed }
noncomputable def plusC(C:Addr)(h h':Heap):Heap:={ h with objs:=((List.range (max h.objs.size h'.objs.size)).map fun i=>if i=C then (h'.objs[i]?).getD deadObj else (h.objs[i]?).getD deadObj).toArray }
theorem get_alive{h:Heap}{a:Addr}:h.get? a=alive ((h.objs[a]?).getD deadObj):=by
 unfold Heap.get?
 cases e:h.objs[a]? with
 | none=>rfl
 | some ob=>
  obtain⟨c,d,dt,sl⟩:=ob
  cases dt <;> rfl
theorem plusC_get{C:Addr}{a:Addr}:(plusC C h h').get? a=if a=C then h'.get? C else h.get? a:=by
 rw[get_alive]
 have e:(plusC C h h').objs[a]?=if a < max h.objs.size h'.objs.size then some (if a=C then (h'.objs[a]?).getD deadObj else (h.objs[a]?).getD deadObj) else none:=by
  unfold plusC
  simp only[List.getElem?_toArray,List.getElem?_map]
  by_cases q:a < max h.objs.size h'.objs.size
  ·rw[List.getElem?_range q,if_pos q];rfl
  ·rw[List.getElem?_eq_none (by rw[List.length_range];exact Nat.le_of_not_lt q),if_neg q];rfl
 rw[e]
 by_cases q:a < max h.objs.size h'.objs.size
 ·rw[if_pos q]
  by_cases qc:a=C
  ·subst qc;simp only[if_true,Option.getD_some];exact get_alive.symm
  ·simp only[if_neg qc,Option.getD_some];exact get_alive.symm
 ·rw[if_neg q]
  have h1:h.objs[a]?=none:=Array.getElem?_eq_none (Nat.le_trans (Nat.le_max_left ..) (Nat.le_of_not_lt q))
  have h2:h'.objs[a]?=none:=Array.getElem?_eq_none (Nat.le_trans (Nat.le_max_right ..) (Nat.le_of_not_lt q))
  by_cases qc:a=C
  ·subst qc;simp only[if_true];rw[get_alive,h2]
  ·simp only[if_neg qc];rw[get_alive,h1]
theorem Rb.butB{W:Addr→Prop}{B:Addr}{d:V}(hW:∀ a,W a→N a)(k:KpB W h h')(nt:NoT W h)(nB:¬ W B)(x:Rb w N true h (.ref B) d):Rb w N true h' (.ref B) d:=
 let ⟨as,r,q⟩:=x
 ⟨as,r.but k nt fun a m e=>nB (by injection (q a m (hW a e)).2 with u;rw[u];exact e),q⟩
theorem rb_ints{b b':Bool}:∀ {vs:List Value} {is:List Int},RbL w N b h vs (is.map .int)→RbL w N' b' h' vs (is.map .int)
 | [],[],_=>.nil
 | [],_::_,x=>nomatch x
 | v::vs,[],x=>nomatch x
 | v::vs,i::is,.cons r x=>by
  obtain⟨t,rfl⟩:=rb_int_inv r
  exact .cons (rb_int _ _ _ _) (rb_ints x)
noncomputable def drawn(xs:List Int):Nat→Nat→List Int
 | _,0=>[]
 | k,n + 1=>takeV xs k 4::drawn xs (k + 1) n
theorem drawn_snoc(xs:List Int):∀ (n k:Nat),drawn xs k (n + 1)=drawn xs k n++[takeV xs (k + n) 4]
 | 0,k=>rfl
 | n + 1,k=>by
  show takeV xs k 4::drawn xs (k + 1) (n + 1)=takeV xs k 4::drawn xs (k + 1) n++[takeV xs (k + (n + 1)) 4]
  rw[drawn_snoc xs n (k + 1),show k + (n + 1)=k + 1 + n by omega];rfl
theorem drawn_len(xs:List Int):∀ (n k:Nat),(drawn xs k n).length=n
 | 0,_=>rfl
 | n + 1,k=>congrArg Nat.succ (drawn_len xs n (k + 1))
theorem draws{r:Rec}(B:Bs w){f:Str}(hf:FnAt w f (fP 185) (fB 185) (fS 185))(hA:OkA A 4){b turn y:Str}{pt p' p1 p2 p3 p4 pc p:Pos}{m4:Nat}{iter:PySem.Expr}{sc:Scope}{ib iy n k0:Nat}{xs:List Int}{dI:DL}
  (hc1:c.fns=fnsT) (hc2:c.lits=litsT) (HS:Snd w A O r) (hc:CallOk w A O c.fns c.lits c.fresh)
  (ok:okScope c sc [turn]=true) (hit:∃ xs,K.itD r c false iter=some (1,xs)∧K.lD xs=dI) (hb:c.slot b=some ib) (hbf:(b,NameKind.free)∈sc.names) (hbs:(c.ofComp sc [turn]).slot b=some ib) (hbt:b≠turn) (hg:(c.ofComp sc [turn]).isGlob f=true) (hfi:∃ g,idxS f 0 fnsT=none∧g=f)
  (hy:c.slot y=some iy) (hyb:iy≠ib) (hsw:∀ F:FI w c env none hB hC N0 o N ρ s.heap,swapsWith (.ListComp (.Call (.Name f p1) [.Name b p2,.Constant (.int 4) m4 p3] [] p4) [⟨.Name turn pt,iter,[],0⟩] sc pc) (some (.Name y p')) p.line env=pure true)
  (F:FI w c env none hB hC N0 o N ρ s.heap) (hρ:ρ[ib]?=some (.ow (.list [.list (xs.map .int),.int (k0:Int)]))) (hk:k0 + n≤5) (hxs:xs.length≤1000000)
  (hrows:∀ kk:List (List V)→R,dI ρ (fun vs=>K.rowsK 1 vs kk)=kk ((List.range n).map fun (i:Nat)=>[(.int (i:Int):V)]))
  {Q:Flow→Shared→Prop} (out:∀ h' tk o' N',FI w c env none hB hC N0 o' N' ((ρ.set ib (.ow (.list [.list (xs.map .int),.int ((k0 + n:Nat):Int)]))).set iy (.va (.list ((drawn xs k0 n).map .int)))) h'→Q .next (sx s h' tk)):
  wpAny (model prog w.w) A (exec (.Assign [.Name y p'] (.ListComp (.Call (.Name f p1) [.Name b p2,.Constant (.int 4) m4 p3] [] p4) [⟨.Name turn pt,iter,[],0⟩] sc pc) p) env) Q E s:=by
 have hh:A.handled=none:=hA.1
 obtain⟨xsD,hit,rfl⟩:=hit
 obtain⟨o1,o2,o3,o4,o5⟩:=okScope_parts ok
 have C0:=F.cd
 rw[exec_Assign_Name_used _ _ _ _ (hsw F)]
 refine wpAny_bind (wpAny_standAt (wpAny_bind ?_))
 show wpAny _ A (do let _ ← compSem (.Call (.Name f p1) [.Name b p2,.Constant (.int 4) m4 p3] [] p4) [⟨.Name turn pt,iter,[],0⟩] sc pc env (some (assign (.Name y p') env))) _ _ s
 refine wpAny_bind (wpAny_mono (Q:=fun _ s'=>Q .next s') ?_ (fun _ s' q=>wpAny_pure (wpAny_pure q)) fun _ _ x=>x)
 have hbad:hB.get? (o ib)=none:=F.ownB hρ
 obtain⟨l0,r0⟩:=F.own b ib _ hb hρ
 obtain⟨nB,_,nBl,nBc,_,_⟩:=F.ownN ib _ hρ
 obtain⟨obB,eB,ntB⟩:=F.ownT hρ
 refine comp_startP (bb:=false) (gs:=[]) (g:=⟨.Name turn pt,iter,[],0⟩) (obj:={ cls:=.type "list",data:=.seq ([]:List Value).toArray }) (target:=.Name turn pt) (ts':=[turn]) (rowsP:=fun rows=>rows=(List.range n).map fun (i:Nat)=>[(.int (i:Int):V)])
  (PP:=fun h0 h' D C=>KpB (fun a=>a=o ib) s.heap h'∧Rb w (fun a=>N a∨a=C) true h' (.ref (o ib)) (.list [.list (xs.map .int),.int ((k0 + n:Nat):Int)])∧∃ (ys:List Value) (nn:Nat),h'.get? D=some (lst ys.toArray nn)∧RbL w N false h' ys ((drawn xs k0 n).map .int))
  hh C0 ok (it_noset hit) rfl rfl rfl (fun s Q E q=>wpAny_newList q (by decide)) (fun it acc env' R s h h'=>codeAny_compStart_list h h')
  (fun Q' f=>src_ok (loop:=false) (ts:=[turn]) (k:=1) (kk:=onlyK ((List.range n).map fun (i:Nat)=>[(.int (i:Int):V)])) hh (HS c hc).1 C0 rfl hit rfl (by rw[hrows];exact onlyK_self _) fun rows hr hl=>f rows (onlyK_some hr)) ?_ ?_
 ·intro D C h0 h' tk' kp zD zC hDC ⟨mC,nsC⟩ ⟨kB,rB,ys,nn,hD,rD⟩
  obtain⟨c1,c2,c3,c4,c5⟩:=F.fresh zC
  obtain⟨d1,d2,d3,d4,d5⟩:=F.fresh zD
  have km:Kp s.heap (plusC C s.heap h'):=fun a ob e=>by
   rw[plusC_get,if_neg fun q=>by subst q;rw[zC]at e;cases e];exact e
  have Fm:FI w c env none hB hC N0 o (fun a=>N a∨a=C) ρ (plusC C s.heap h'):=F.grow (fun a q=>.inl q) (fun a q=>q.elim .inl fun e=>.inr (e▸zC)) km fun a q=>by
   rcases q with q | rfl
   ·obtain⟨ob,e⟩:=F.live a q;exact⟨ob,km _ _ e⟩
   ·obtain⟨ob,e,_⟩:=ns_live nsC;exact⟨ob,by rw[plusC_get,if_pos rfl];exact e⟩
  have Fe:=Fm.mutK (h':=h') hρ hb rfl (fun a ob na e=>by
   rw[plusC_get]at e
   by_cases q:a=C
   ·subst q;rwa [if_pos rfl]at e
   ·rw[if_neg q]at e;exact kB a ob na e) rB
  have rv:Rb w (fun a=>N a∨a=C) false h' (.ref D) (.list ((drawn xs k0 n).map .int)):=Rb.lst false (fun _ q=>q.elim d5 hDC) hD (rb_ints rD)
  show wpAny _ A (assign (.Name y p') env (.ref D)) _ _ _
  refine wpAny_assign_Name (fi_va (s:=(sx s h' tk')) Fe hy (.inl rfl) rv fun h'' tk'' t S F''=>?_)
  have hCt:C≠t:=fun q=>by
   subst q
   rcases S.at_ with q | ⟨_,q⟩
   ·exact c2 q
   ·exact c3 _ _ q rfl
  have ns'':h''.Ns C mC:=nsC.at' fun ob e=>S.kp C ob hCt e
  refine⟨mC,ns'',fun h3 sb=>?_⟩
  refine out h3 tk'' o _ (F''.drop (W:=fun a=>a=C) (h':=h3) (fun a q=>.inr q) (fun a q=>by subst q;exact c1) (fun a ob na e=>sb.extBut a ob na e) (notT_of (ns_live ns'')) (Ne.symm c2) (fun x a e q=>c3 x a e q.symm) fun j d' e q=>?_)
  have e:=ow_set e
  rcases get_set e with ⟨rfl,_,_⟩ | ⟨nj,e2⟩
  ·exact c4 _ _ hρ q
  ·exact c4 j d' e2 q
 ·intro rows I h0 h1 tk fp wr P Md St cl C D hbp hrw kp T FF hD hDC hDc k1b hget R hR
  subst hrw
  have z01:∀ a,h1.get? a=none→h0.get? a=none:=fun a e=>by
   cases q:h0.get? a with
   | none=>rfl
   | some ob=>rw[T.keep _ _ q]at e;cases e
  have z0:∀ a,h0.get? a=none→s.heap.get? a=none:=fun a e=>by
   cases q:s.heap.get? a with
   | none=>rfl
   | some ob=>rw[kp _ _ q]at e;cases e
  have dead':∀ a,h1.get? a=none→a∉fp:=fun a e m=>by obtain⟨ob,e'⟩:=T.fpl a m;rw[e]at e';cases e'
  have wrc:∀ x a,cl.lookup x=some a→a∉wr:=fun x a ea m=>by
   rcases FF.out x a ea with z | ⟨ob,z⟩
   ·exact dead' a z (T.turns.sub a m)
   ·rw[T.new a m]at z;cases z
  have clD:∀ x a,cl.lookup x=some a→a≠D:=fun x a ea q=>by
   subst q
   obtain⟨u,ob,ho,hd⟩:=FF.cel x a ea
   rw[hget]at ho;cases ho;cases hd
  have fresh0:∀ a,compW sc cl C D wr a→h0.get? a=none:=fun a q=>by
   rcases q with rfl | rfl | q | ⟨x,ex,ea⟩
   ·exact z01 _ hD
   ·exact z01 _ FF.newC
   ·exact T.new a q
   ·exact z01 _ (FF.own x a ex ea).1
  have fresh1:∀ a,compW sc cl C D wr a→(cut (fun a=>a=o ib) h0).get? a=none:=fun a q=>by
   by_cases e:a=o ib
   ·exact cut_none e
   ·rw[cut_some (W:=fun a=>a=o ib) e];exact fresh0 a q
  have X:CompCx w A N sc [turn] cl C D I (.Name turn pt) ((List.range n).map fun (i:Nat)=>[(.int (i:Int):V)]) wr (cut (fun a=>a=o ib) h0) h0 h1 fp wr P Md St:=⟨o1,o3,by simp,T.any,FF.cell,clD,FF.d1,FF.d2,hDC,dead' C FF.newC,dead' D hD,fun x a e ea=>dead' a (FF.own x a e ea).1,wrc,fun a m=>m,fresh1⟩
  have hget':∃ nn,hbp.get? D=some (lst #[] nn):=⟨0,hget⟩
  obtain⟨nD,hDg⟩:=hget'
  have alive0:∀ a,compW sc cl C D wr a→∃ ob,hbp.get? a=some ob∧¬ (ob.cls=.type "tuple"∧∃ vs n,ob.data=.seq vs n):=fun a q=>by
   rcases q with rfl | rfl | q | ⟨x,ex,ea⟩
   ·exact⟨_,hDg,fun q=>absurd (Value.type.inj q.1) (by decide)⟩
   ·obtain⟨m,hm⟩:=FF.ns;exact ns_live hm
   ·exact T.live _ _ (T.turns.frame _ _ _ T.st0 fun b _ ob e=>k1b b ob e) a q
   ·obtain⟨u,i⟩:=FF.cel x a ea;exact cell_live i
  have mkS:∀ hS:Heap,Kp hS hbp→CompSt w N sc cl C D wr hS hbp [] (accL w (fun a=>N a∨compW sc cl C D wr a) D):=fun hS kS=>⟨FF.ns,FF.cel,kS,fun a q=>let ⟨ob,e,_⟩:=alive0 a q;⟨ob,e⟩,fun a ob q e t=>by
   obtain⟨ob',e',nt⟩:=alive0 a q
   rw[e]at e';cases e';exact nt t,acc_nil ⟨nD,hDg⟩⟩
  have e0':=(turn_cond (C0.keeps kp) ok FF fresh0 (mkS h0 (T.keep.trans k1b))).e0
  have nBW:¬ compW sc cl C D wr (o ib):=fun q=>by have:=z0 _ (fresh0 _ q);rw[eB]at this;cases this
  have k0b:Kp s.heap hbp:=kp.trans (T.keep.trans k1b)
  have iN:∀ a,(N a∨compW sc cl C D wr a)→N a∨s.heap.get? a=none:=fun a q=>q.elim .inl fun q=>.inr (z0 _ (fresh0 a q))
  have kBs:∀ hS,Kp (cut (fun a=>a=o ib) h0) hS→KpB (fun a=>a=o ib) s.heap hS:=fun hS k a ob na e=>k a ob (by rw[cut_some (W:=fun a=>a=o ib) na];exact kp _ _ e)
  have kpB:∀ hS,KpB (fun a=>a=o ib) s.heap hS→Kp hB hS:=fun hS k a ob e=>k a ob (fun q=>by subst q;rw[hbad]at e;cases e) (F.kp a ob e)
  have fpB:o ib∉fp:=fun m=>by
   rcases T.out rfl _ m with q | q | ⟨ob,e,t⟩
   ·exact nBW (.inr (.inr (.inl q)))
   ·exact q nB
   ·rw[kp _ _ eB]at e;cases e;exact ntB t
  obtain⟨aT,obT,pmT,cdT,docT,eT1,eT2,eT3,eT4⟩:=id hf
  have lk0:Look (compEnvC sc cl C env) hbp b (.ref (o ib)):=by
   have hnm:=okName_parts (o2 _ hbf)
   obtain⟨_,_,hnm⟩:=hnm
   have hcn:c.names.lookup b=some .cell∨c.names.lookup b=some .free:=by
    rcases hnm with ⟨q,_⟩ | ⟨q,_⟩ | ⟨_,q,_⟩ | ⟨q,_⟩
    ·cases q
    ·cases q
    ·exact q
    ·cases q
   rcases l0 with ⟨q,_⟩ | ⟨_,a,ea,ia⟩
   ·rcases F.e0.cel b hcn with q' | q' <;> (rw[q]at q';cases q')
   ·have hk:(c.ofComp sc [turn]).names.lookup b=some .cell∨(c.ofComp sc [turn]).names.lookup b=some .free:=by
     obtain⟨k,hk,hk2⟩:=slot_kind hbs
     rcases hk2 with rfl | rfl | rfl
     ·exfalso
      have:sc.names.lookup b=some .local:=hk
      rcases (okName_parts (o2 _ (mem_of_lookup this))).2.2 with ⟨_,q,_⟩ | ⟨q,_⟩ | ⟨q,_⟩ | ⟨q,_⟩
      ·rcases q with q | q
       ·subst q;exact o5 (List.mem_of_getElem? (slot_get hb))
       ·simp at q;exact hbt q
      ·cases q
      ·cases q
      ·cases q
     ·exact .inl hk
     ·exact .inr hk
    exact .inr ⟨e0'.cel b hk,a,(FF.free b hbf).trans ea,(ia.keeps k0b)⟩
  have hlen:((List.range n).map fun (i:Nat)=>[(.int (i:Int):V)]).length=n:=by rw[List.length_map,List.length_range]
  refine codeAny_turns (plain_one _ _ _ _ _ _) (fun n' s'=>∃ i h tk,s'=(sx s h tk)∧i≤n∧n'=n + 1 - i∧St i h∧CompSt w N sc cl C D wr (cut (fun a=>a=o ib) h0) h ((drawn xs k0 i).map .int) (accL w (fun a=>N a∨compW sc cl C D wr a) D)∧
   Look (compEnvC sc cl C env) h b (.ref (o ib))∧Rb w (fun a=>N a∨compW sc cl C D wr a) true h (.ref (o ib)) (.list [.list (xs.map .int),.int ((k0 + i:Nat):Int)])) ?_ (n + 1)
   ⟨0,hbp,tk,rfl,Nat.zero_le _,rfl,T.turns.frame _ _ _ T.st0 fun b _ ob e=>k1b b ob e,mkS _ (cut_kp.trans (T.keep.trans k1b)),lk0,(r0.more iN).keeps k0b⟩
  rintro n' s' ⟨i,h,tk,rfl,hi,rfl,st,S,lk,rB⟩
  have sysD:D≠o ib:=fun q=>nBW (.inl q.symm)
  by_cases hlt:i < n
  ·refine comp_turn (s:=(sx s h tk)) (env:=env) hh X gather_list (by rw[hlen];exact hlt) st S (fun v s₁ x=>x) fun h₄ tk₄ row vs hrow st₄ S₄ k₄ rr hl look rest=>?_
   show wpAny _ A (pure true) _ _ _
   refine wpAny_pure ?_
   simp only[if_true]
   have lk₄:=rest b _ (by simp [hbt]) lk
   have kB₄:=kBs h₄ S₄.kp
   have g₄:=F.gB.keeps (kpB _ kB₄)
   have rB₄:=Rb.butB (fun a q=>.inr q) k₄ (fun a ob q e=>S.nt a ob q e) nBW rB
   have lv₄:Live (fun a=>N a∨compW sc cl C D wr a) h₄:=fun a q=>by
    rcases q with q | q
    ·by_cases e:a=o ib
     ·subst e
      obtain⟨as,r,_⟩:=rB₄
      cases r with
      | list e' _=>exact⟨_,e'⟩
     ·obtain⟨ob,eo⟩:=F.live a q;exact⟨ob,kB₄ a ob e eo⟩
    ·exact S₄.lw a q
   refine wpAny_Call_NameR (ld_global e0' hg g₄.g g₄.b (.inl eT1) ?_)
   rw[starEach_eq rfl]
   refine Calls.callWith_function (o:=obT) (Calls.evalArgs_plain (Calls.spliced_cons (ld_look (s:=(sx s h₄ tk₄)) e0' hbs lk₄ (Calls.spliced_cons (wpAny_Constant_int (Calls.spliced_nil ⟨⟨g₄.base _ _ eT2,eT3⟩,?_⟩))))))
   refine take_ok (s:=(sx s h₄ (tk₄ + 1))) (mm:=4) (N:=fun a=>N a∨compW sc cl C D wr a) (k:=k0 + i) B hf (hA.le (by decide)) (by omega) (.inr rfl) hxs eT1 (by rw[← hc1,← hc2];exact F.gB) F.l0 (kpB _ kB₄) hbad (fun a q=>.inl (F.n0 a q)) (fun a q=>(iN a q).elim (F.i a) fun e=>.inr (dead F.kp e)) lv₄ (.inl nB) rB₄ fun h₅ tk₅ t kB₅ rB₅=>?_
   have nNB:NoT (fun a=>a=o ib) h₄:=fun a ob q e t=>by
    subst q
    obtain⟨as,r,_⟩:=rB₄
    cases r with
    | list e' _=>rw[e]at e';cases e';exact absurd (Value.type.inj t.1) (by decide)
   have ne:∀ a,compW sc cl C D wr a→a≠o ib:=fun a q e=>nBW (e▸q)
   obtain⟨ys,no,hno,rb⟩:=S₄.acc
   have hno₅:=kB₅ D _ sysD hno
   have rb₅:RbL w (fun a=>N a∨compW sc cl C D wr a) false h₅ ys ((drawn xs k0 i).map .int):=rb_ints rb
   have st₅:St (i + 1) h₅:=T.turns.frame _ _ _ st₄ fun b hb ob e=>kB₅ b ob (fun q=>fpB (q▸hb)) e
   refine wpAny_list_append_plain (s:=(sx s h₅ tk₅)) ⟨no,hno₅⟩ (fun h₇ pl₇ sb₇=>?_) (by
    rw[List.size_toArray,rb.length,List.length_map,drawn_len];exact Nat.le_trans (by omega) (show 1000000≤sizeLine by decide))
   have k₇:KpB (fun a=>a=D) h₅ h₇:=fun a ob na e=>sb₇.extBut a ob na e
   have nD:NoT (fun a=>a=D) h₅:=notT_of ⟨_,hno₅,fun q=>absurd (Value.type.inj q.1) (by decide)⟩
   obtain⟨mm,hm⟩:=S₄.ns
   obtain⟨n7,hn7⟩:=pl₇
   have C_ne:C≠o ib:=ne C (.inr (.inl rfl))
   have lk₅:=lk₄.but (W:=fun a=>a=o ib) kB₅ (fun q=>C_ne q) fun a ea q=>by
    obtain⟨u,i⟩:=S₄.cel b a ea
    obtain⟨ob,e,nt⟩:=i
    subst q
    obtain⟨as,r,_⟩:=rB₄
    cases r with
    | list e' _=>rw[e]at e';cases e';cases nt
   have clB:∀ x a,cl.lookup x=some a→a≠o ib:=fun x a ea q=>by
    obtain⟨u,ob,e,nt⟩:=S₄.cel x a ea
    subst q
    obtain⟨as,r,_⟩:=rB₄
    cases r with
    | list e' _=>rw[e]at e';cases e';cases nt
   have alive:∀ a,compW sc cl C D wr a→∃ ob,h₇.get? a=some ob∧¬ (ob.cls=.type "tuple"∧∃ vs n,ob.data=.seq vs n):=fun a q=>by
    by_cases qd:a=D
    ·subst qd;exact⟨_,hn7,fun q=>absurd (Value.type.inj q.1) (by decide)⟩
    ·obtain⟨ob,e⟩:=S₄.lw a q
     exact⟨ob,k₇ a ob qd (kB₅ a ob (ne a q) e),S₄.nt a ob q e⟩
   have kc:Kp (cut (fun a=>a=o ib) h0) h₇:=fun a ob e=>by
    have ea:a≠o ib:=fun q=>by subst q;rw[cut_none (W:=fun a=>a=o ib) rfl]at e;cases e
    have ed:a≠D:=fun q=>by subst q;rw[fresh1 _ (.inl rfl)]at e;cases e
    exact k₇ a ob ed (kB₅ a ob ea (S₄.kp a ob e))
   have zs:(drawn xs k0 (i + 1)).map (fun i=>(PyData.int i:V))=(drawn xs k0 i).map .int++[.int (takeV xs (k0 + i) 4)]:=by
    rw[drawn_snoc,List.map_append];rfl
   refine⟨n + 1 - (i + 1),by omega,i + 1,h₇,tk₅,rfl,hlt,rfl,T.turns.frame _ _ _ st₅ fun b hb ob e=>k₇ b ob (fun q=>X.fpD (q▸hb)) e,
    ⟨⟨mm,hm.at' fun ob e=>k₇ C ob (Ne.symm hDC) (kB₅ C ob C_ne e)⟩,fun x a ea=>?_,kc,fun a q=>let ⟨ob,e,_⟩:=alive a q;⟨ob,e⟩,fun a ob q e t=>?_,ys++[.int (takeV xs (k0 + i) 4) t],n7,by simpa using hn7,?_⟩,
    lk₅.but (W:=fun a=>a=D) k₇ (fun q=>hDC q.symm) fun a ea q=>clD b a ea q,Rb.butB (fun a q=>.inr (.inl q)) k₇ nD (fun q=>sysD q.symm) (by rw[show k0 + (i + 1)=k0 + i + 1 by omega];exact rB₅)⟩
   ·obtain⟨u,ob,ho,hd⟩:=S₄.cel x a ea
    exact⟨u,ob,k₇ a ob (clD x a ea) (kB₅ a ob (clB x a ea) ho),hd⟩
   ·obtain⟨ob',e',nt⟩:=alive a q
    rw[e]at e';cases e';exact nt t
   ·rw[zs]
    exact(rb_ints rb).append (.cons (rb_int _ _ _ _) .nil)
  ·have hin:i=n:=by omega
   subst hin
   refine T.turns.done _ _ _ (by rw[hlen];exact st) fun h₁ tk₁ kw₁=>?_
   have k₁:KpB (fun a=>a∈wr) h h₁:=fun a ob na e=>kw₁ a ob na e
   have kBh:=kBs h S.kp
   obtain⟨mm,hm⟩:=S.ns
   obtain⟨ys,no,hno,rb⟩:=S.acc
   refine hR h₁ tk₁ ⟨mm,hm.at' fun ob e=>k₁ C ob (fun m=>X.fpC (T.turns.sub C m)) e⟩ ⟨fun a ob na e=>k₁ a ob (fun m=>by have:=z0 _ (T.new a m);rw[this]at e;cases e) (kBh a ob na e),?_,ys,no,k₁ D _ (fun m=>X.fpD (T.turns.sub D m)) hno,rb_ints rb⟩
   refine(Rb.butB (fun a q=>.inr (.inr (.inr (.inl q)))) k₁ (fun a ob q e=>S.nt a ob (.inr (.inr (.inl q))) e) (fun q=>nBW (.inr (.inr (.inl q)))) rB).less fun a q=>q.elim .inl fun e=>.inr (.inr (.inl e))
end Mine
end
noncomputable section
open PySem PySem.W PyProof.Rows
namespace Mine
open K (R D DL X Orc Rec TgL)
open MineH
variable{w:Pk}{A:Around}{s:Shared}{N N' N0 N1:Addr→Prop}{h h' hB hC:Heap}{c:Cx}{env:Env}{ρ:Rho}{ln:Option Addr}{o o':Nat→Addr}{z:V}{m:Md}{O OL:Orc}
theorem takeE(B:Bs w){f b:Str}(hf:FnAt w f (fP 185) (fB 185) (fS 185))(hA:OkA A 3){p1 p2 p3 p4:Pos}{m4 ib k mm:Nat}{ys:List Int}(hc1:c.fns=fnsT)(hc2:c.lits=litsT)(F:FI w c env none hB hC N0 o N ρ s.heap)(hb:c.slot b=some ib)(hg:c.isGlob f=true)
  (hρ:ρ[ib]?=some (.ow (.list [.list (ys.map .int),.int (k:Int)]))) (hk:k < 5) (hmm:mm=3∨mm=4) (hys:ys.length≤1000000) {Q:Value→Shared→Prop}
  (q:∀ h' tk t,FI w c env none hB hC N0 o N (ρ.set ib (.ow (.list [.list (ys.map .int),.int ((k + 1:Nat):Int)]))) h'→KpB (fun a=>a=o ib) s.heap h'→Q (.int (takeV ys k mm) t) (sx s h' tk)):
  wpAny (model prog w.w) A (eval (.Call (.Name f p1) [.Name b p2,.Constant (.int (mm:Int)) m4 p3] [] p4) env) Q E s:=by
 refine bc fun gG=>?_
 obtain⟨l0,r0⟩:=F.own b ib _ hb hρ
 obtain⟨nB,_⟩:=F.ownN ib _ hρ
 obtain⟨aT,obT,pmT,cdT,docT,eT1,eT2,eT3,eT4⟩:=id hf
 refine gG ?_
 refine wpAny_Call_NameR (ld_global F.e0 hg F.gi.g F.gi.b (.inl eT1) ?_)
 rw[starEach_eq rfl]
 refine Calls.callWith_function (o:=obT) (Calls.evalArgs_plain (Calls.spliced_cons (ld_look F.e0 hb l0 (Calls.spliced_cons (wpAny_Constant_int (Calls.spliced_nil ⟨⟨F.gi.base _ _ eT2,eT3⟩,?_⟩))))))
 refine take_ok (s:={ s with toks:=s.toks + 1 }) (mm:=mm) (N:=N) (k:=k) B hf hA hk hmm hys eT1 (by rw[← hc1,← hc2];exact F.gB) F.l0 F.kp (F.ownB hρ) F.n0 F.i F.live nB r0 fun h' tk t kB rB=>?_
 exact q h' tk t (F.mutK hρ hb rfl kB rB) kB
theorem FI.forget(F:FI w c env none hB hC N0 o N ρ h)(i:Nat):FI w c env none hB hC N0 o N (ρ.set i .un) h:=by
 have back:∀ {j:Nat} {d:V},(ρ.set i Sl.un)[j]?=some (Sl.ow d)→ρ[j]?=some (.ow d):=fun {j d} hj=>by
  rcases get_set hj with ⟨_,q,_⟩ | ⟨_,q⟩
  ·cases q
  ·exact q
 refine⟨F.e0,fun x j sl hs hj=>?_,F.live,by rw[List.length_set];exact F.len,F.cel,F.dis,F.gB,F.kp,F.kBC,F.kc,F.lnB,F.n0,F.l0,F.i,F.ns,F.loc,F.cells,F.low,fun x j d a b=>F.own x j d a (back b),fun j d b=>F.ownN j d (back b),fun j l d d' a b=>F.inj j l d d' (back a) (back b),fun L q=>nomatch q⟩
 rcases get_set hj with ⟨rfl,rfl,_⟩ | ⟨_,q⟩
 ·trivial
 ·exact F.inv x j sl hs q
theorem asg_two(hh:A.handled=none){x1 x2:Str}{i1 i2:Nat}{q1 q2:Pos}{kk k2:Nat}{tp vp p:Pos}{vs:List PySem.Expr}(h1:c.slot x1=some i1)(h2:c.slot x2=some i2)(ne:x1≠x2)(hc:vs.all (foldedForSure 8)=true∨vs.all (constantsAlone 8)=false){Q:Flow→Shared→Prop}
  (main:∀ Q':Value→Shared→Prop,(∀ h' tk v1 v2 d1 d2 o' N' ρ',FI w c env none hB hC N0 o' N' ρ' h'→Rb w N' false h' v1 d1→Rb w N' false h' v2 d2→(∀ h'' tk' o'',FI w c env none hB hC N0 o'' N' ((ρ'.set i1 (.va d1)).set i2 (.va d2)) h''→Q .next (sx s h'' tk'))→∀ T,h'.IsTuple T #[v1,v2]→IsTup h' T #[v1,v2]→Q' (.ref T) (sx s h' tk))→wpAny (model prog w.w) A (eval (.Tuple vs k2 vp) env) Q' E s):
  wpAny (model prog w.w) A (exec (.Assign [.Tuple [.Name x1 q1,.Name x2 q2] kk tp] (.Tuple vs k2 vp) p) env) Q E s:=by
 have ii:i1≠i2:=fun q=>ne (by subst q;exact slot_inj h1 h2)
 rcases swapped_cases (k:=kk) (k2:=k2) (tp:=tp) (vp:=vp) (env:=env) (ts:=[.Name x1 q1,.Name x2 q2]) (xs:=[x1,x2]) rfl hc with hw | hw
 ·refine Assign_Tuple (main _ fun h' tk v1 v2 d1 d2 o' N' ρ' F' r1 r2 fin T t1 t2=>?_) rfl hw
  refine assign_unp (s:=(sx s h' tk)) hh (.tup _ [x1,x2] kk tp T [v1,v2] rfl rfl t1) fun h2' k2'=>?_
  exact store_jobs (A:=A) [⟨x1,i1,v1,.va d1⟩,⟨x2,i2,v2,.va d2⟩] ρ' o' (sx s h2' tk) (Q .next) (F'.keeps k2') (fun j mj=>by
   simp at mj
   rcases mj with rfl | rfl
   ·exact⟨h1,.inl rfl,Rb.keeps k2' r1⟩
   ·exact⟨h2,.inl rfl,Rb.keeps k2' r2⟩) (by simp [Dis]) fun h3 tk3 o3 F3=>fin h3 tk3 o3 F3
 ·refine Assign_Tuple_swapped (main _ fun h' tk v1 v2 d1 d2 o' N' ρ' F' r1 r2 fin T t1 t2=>?_) rfl hw
  refine unpackItems_tuple (s:=(sx s h' tk)) (items:=#[v1,v2]) hh t2 fun h2' hx=>?_
  have k2':Kp h' h2':=fun a o e=>hx a o (Nat.ne_of_lt (Heap.lt_size e)) e
  refine seq_bind _ _ _ ?_
  exact store_jobs (A:=A) [⟨x2,i2,v2,.va d2⟩,⟨x1,i1,v1,.va d1⟩] ρ' o' (sx s h2' tk) (Q .next) (F'.keeps k2') (fun j mj=>by
   simp at mj
   rcases mj with rfl | rfl
   ·exact⟨h2,.inl rfl,Rb.keeps k2' r2⟩
   ·exact⟨h1,.inl rfl,Rb.keeps k2' r1⟩) (by simp [Dis]) fun h3 tk3 o3 F3=>fin h3 tk3 o3 (by rw[List.set_comm _ _ ii];exact F3)
end Mine
end
noncomputable section
open PySem PySem.W PyProof.Rows
namespace Mine
open K (R D DL X Orc Rec TgL)
open MineH
section
noncomputable def restL:List Stmt:=(fB 187).drop 3
noncomputable def rsL(i:Nat):Stmt:=restL.getD i (.Pass ⟨0,0,0,0⟩)
noncomputable def mL:Md:=⟨false,false,[1,10]⟩
theorem for_eq{OL:Nat→List V→R}{E:Rec}{m:Md}{c:Cx}{rs:Stmt→X}{t it:PySem.Expr}{b:List Stmt}{p:Pos}{ts:List Str}{is:List Nat}{kd:Nat}{xs:List D}(h1:tgNames t=some ts)(h2:wSlots m c ts=some is)(h3:K.itD E c false it=some (kd,xs))(h4:okT true kd ts.length t=true)(h5:kpI m c it=[]):
  stepS OL E m c rs (.For t it b [] p)=K.xFor is kd (K.lD xs) (blk rs b):=by
 show(if true=true then forS E m c rs t it b else K.xStuck)=_
 rw[if_pos rfl]
 unfold forS
 rw[h1]
 show optS (wSlots m c ts) _=_
 rw[h2]
 show optS (K.itD E c false it) _=_
 rw[h3]
 show(if okT true kd ts.length t=true then frzX m (kpI m c it) (K.xFor is kd (K.lD xs) (blk rs b)) else K.xStuck)=_
 rw[if_pos h4,h5]
 unfold frzX
 rw[if_pos (by simp)]
noncomputable section
open K
theorem zs0(OL O:Nat→List V→R):cS OL (K.cE O 61) mL (cxF 187) 60 (rsL 0)=(xAsg 6 false (cComp (cTup (cons (cLit (.str ⟨⟨[nat_lit 115,nat_lit 117,nat_lit 109]⟩⟩)) (cons (cTup (cons (cLit (.tuple [ (.str ⟨⟨[nat_lit 115,nat_lit 121,nat_lit 109]⟩⟩),(.str ⟨⟨[nat_lit 110]⟩⟩) ])) (cons (cTup (cons (cLit (.str ⟨⟨[nat_lit 110,nat_lit 117,nat_lit 109]⟩⟩)) (cons (cN false 13) (cons (cLit (.int (.ofNat (.succ (nat_lit 0))))) nil)))) nil))) nil))) 0 (cons (cN true 4) nil) tnil)):=by kernel_rfl
theorem zs1(OL O:Nat→List V→R):cS OL (K.cE O 61) mL (cxF 187) 60 (rsL 1)=(xAsg 7 false (cCall (O 44) (cons (cTup (cons (cLit (.str ⟨⟨[nat_lit 112,nat_lit 114,nat_lit 111,nat_lit 100]⟩⟩)) (cons (cBi .tuple (cons (cBin .Add (cN false 6) (cList (cons (cTup (cons (cLit (.str ⟨⟨[nat_lit 112,nat_lit 111,nat_lit 119]⟩⟩)) (cons (cTup (cons (cLit (.str ⟨⟨[nat_lit 110,nat_lit 117,nat_lit 109]⟩⟩)) (cons (cSub (cN true 3) (cLit (.int (.ofNat .zero)))) (cons (cSub (cN true 3) (cLit (.int (.ofNat (.succ (nat_lit 0)))))) nil)))) (cons (cLit (.tuple [ (.str ⟨⟨[nat_lit 115,nat_lit 121,nat_lit 109]⟩⟩),(.str ⟨⟨[nat_lit 110]⟩⟩) ])) nil)))) nil))) nil)) nil))) nil))):=by kernel_rfl
theorem zs2(OL O:Nat→List V→R):cS OL (K.cE O 61) mL (cxF 187) 60 (rsL 2)=(xAsg 8 false (cCall (O 124) (cons (cN false 7) (cons (cLit (.str ⟨⟨[nat_lit 110]⟩⟩)) nil)))):=by kernel_rfl
theorem zs3(OL O:Nat→List V→R):cS OL (K.cE O 61) mL (cxF 187) 60 (rsL 3)=(xIte (cCmp .Is (cN true 8) (cLit .none)) (xSeq (xRet (cLit (.bool false))) xNil) xNil):=by kernel_rfl
theorem zs5(OL O:Nat→List V→R):cS OL (K.cE O 61) mL (cxF 187) 60 (rsL 5)=(xRet (cLit (.bool true))):=by kernel_rfl
noncomputable def forB(O:Nat→List V→R):X:=(xSeq (xAsg 10 true (cIte (cCmp .GtE (cN true 9) (cLit (.int (.ofNat .zero)))) (cList (cons (cBin .Pow (cSub (cN true 3) (cLit (.int (.ofNat .zero)))) (cN false 9)) (cons (cBin .Pow (cSub (cN true 3) (cLit (.int (.ofNat (.succ (nat_lit 0)))))) (cN false 9)) nil))) (cList (cons (cBin .Pow (cSub (cN true 3) (cLit (.int (.ofNat (.succ (nat_lit 0)))))) (cBin .Sub (cLit (.int (.ofNat .zero))) (cN false 9))) (cons (cBin .Pow (cSub (cN true 3) (cLit (.int (.ofNat .zero)))) (cBin .Sub (cLit (.int (.ofNat .zero))) (cN false 9))) nil))))) (xSeq (xFor [5] 0 (cons (cN false 4) nil) (xSeq (xSetI 10 (cLit (.int (.ofNat .zero))) (cBin .Mult (cSub (cN true 10) (cLit (.int (.ofNat .zero)))) (cBin .Add (cN false 9) (cN false 5)))) xNil)) (xSeq (xAsgL (gnm 11 false (gnm 12 false gnil)) (cons (cCall (O 125) (cons (cN false 8) (cons (cN false 9) nil))) (cons (cCall (O 125) (cons (cN false 8) (cons (cBin .Add (cN false 9) (cLit (.int (.ofNat (.succ (nat_lit 0)))))) nil))) nil))) (xSeq (xIte (cOr2 (cCmp .Eq (cSub (cN true 11) (cLit (.int (.ofNat (.succ (nat_lit 0)))))) (cLit (.int (.ofNat .zero)))) (cCmp .Eq (cSub (cN true 12) (cLit (.int (.ofNat (.succ (nat_lit 0)))))) (cLit (.int (.ofNat .zero))))) (xSeq (xRet (cLit (.bool false))) xNil) xNil) (xSeq (xIte (cCmp .NotEq (cBin .Mult (cBin .Sub (cBin .Mult (cSub (cN true 12) (cLit (.int (.ofNat .zero)))) (cSub (cN true 11) (cLit (.int (.ofNat (.succ (nat_lit 0))))))) (cBin .Mult (cSub (cN true 11) (cLit (.int (.ofNat .zero)))) (cSub (cN true 12) (cLit (.int (.ofNat (.succ (nat_lit 0)))))))) (cSub (cN true 10) (cLit (.int (.ofNat (.succ (nat_lit 0))))))) (cBin .Mult (cBin .Mult (cSub (cN true 10) (cLit (.int (.ofNat .zero)))) (cSub (cN true 11) (cLit (.int (.ofNat (.succ (nat_lit 0))))))) (cSub (cN true 12) (cLit (.int (.ofNat (.succ (nat_lit 0)))))))) (xSeq (xRet (cLit (.bool false))) xNil) xNil) xNil)))))
noncomputable def forX:DL:=(cons (cNeg (cLit (.int (.ofNat (.succ (nat_lit 2)))))) (cons (cLit (.int (.ofNat (.succ (nat_lit 3))))) nil))
theorem sh4:∃ t it b p,rsL 4=.For t it b [] p∧(∃ ts,tgNames t=some ts∧wSlots mL (cxF 187) ts=some [9]∧okT true 2 ts.length t=true)∧(∀ O,K.itD (K.cE O 61) (cxF 187) false it=some (2,[K.cNeg (K.cLit (.int (.ofNat (.succ (nat_lit 2))))),K.cLit (.int (.ofNat (.succ (nat_lit 3))))]))∧kpI mL (cxF 187) it=[]∧∀ OL O,blk (cS OL (K.cE O 61) mL (cxF 187) 59) b=forB O:=
 ⟨_,_,_,_,rfl,⟨_,rfl,by kernel_rfl,by kernel_rfl⟩,fun _=>by kernel_rfl,by kernel_rfl,fun _ _=>by kernel_rfl⟩
theorem zs4(OL O:Nat→List V→R):cS OL (K.cE O 61) mL (cxF 187) 60 (rsL 4)=xFor [9] 2 forX (forB O):=by
 refine bc fun gG=>?_
 obtain⟨t,it,b,p,e,⟨ts,h1,h2,h4⟩,h3,h5,h6⟩:=sh4
 refine gG ?_
 rw[e]
 show stepS OL (K.cE O 61) mL (cxF 187) (cS OL (K.cE O 61) mL (cxF 187) 59) (.For t it b [] p)=_
 rw[for_eq h1 h2 (h3 O) h4 h5,h6 OL O]
 rfl
theorem restL_eq:restL=[rsL 0,rsL 1,rsL 2,rsL 3,rsL 4,rsL 5]:=by kernel_rfl
theorem shR0(OL O:Nat→List V→R):blk (cS OL (K.cE O 61) mL (cxF 187) 60) restL=(xSeq (xAsg 6 false (cComp (cTup (cons (cLit (.str ⟨⟨[nat_lit 115,nat_lit 117,nat_lit 109]⟩⟩)) (cons (cTup (cons (cLit (.tuple [ (.str ⟨⟨[nat_lit 115,nat_lit 121,nat_lit 109]⟩⟩),(.str ⟨⟨[nat_lit 110]⟩⟩) ])) (cons (cTup (cons (cLit (.str ⟨⟨[nat_lit 110,nat_lit 117,nat_lit 109]⟩⟩)) (cons (cN false 13) (cons (cLit (.int (.ofNat (.succ (nat_lit 0))))) nil)))) nil))) nil))) 0 (cons (cN true 4) nil) tnil)) (xSeq (xAsg 7 false (cCall (O 44) (cons (cTup (cons (cLit (.str ⟨⟨[nat_lit 112,nat_lit 114,nat_lit 111,nat_lit 100]⟩⟩)) (cons (cBi .tuple (cons (cBin .Add (cN false 6) (cList (cons (cTup (cons (cLit (.str ⟨⟨[nat_lit 112,nat_lit 111,nat_lit 119]⟩⟩)) (cons (cTup (cons (cLit (.str ⟨⟨[nat_lit 110,nat_lit 117,nat_lit 109]⟩⟩)) (cons (cSub (cN true 3) (cLit (.int (.ofNat .zero)))) (cons (cSub (cN true 3) (cLit (.int (.ofNat (.succ (nat_lit 0)))))) nil)))) (cons (cLit (.tuple [ (.str ⟨⟨[nat_lit 115,nat_lit 121,nat_lit 109]⟩⟩),(.str ⟨⟨[nat_lit 110]⟩⟩) ])) nil)))) nil))) nil)) nil))) nil))) (xSeq (xAsg 8 false (cCall (O 124) (cons (cN false 7) (cons (cLit (.str ⟨⟨[nat_lit 110]⟩⟩)) nil)))) (xSeq (xIte (cCmp .Is (cN true 8) (cLit .none)) (xSeq (xRet (cLit (.bool false))) xNil) xNil) (xSeq (xFor [9] 2 forX (forB O)) (xSeq (xRet (cLit (.bool true))) xNil)))))):=by
 rw[restL_eq]
 show xSeq _ (xSeq _ (xSeq _ (xSeq _ (xSeq _ (xSeq _ xNil)))))=_
 rw[zs0,zs1,zs2,zs3,zs4,zs5]
theorem shR(OL:Nat→List V→R):blk (cS OL (K.cE (Oc [44,124,125]) 61) mL (cxF 187) 60) restL=lawR:=(shR0 OL _).trans (by kernel_rfl)
end
end
end Mine
end
noncomputable section
open PySem PySem.W PyProof.Rows
namespace Mine
open K (R D DL X Orc Rec TgL)
open MineH
variable{w:Pk}{A:Around}{s:Shared}{N N' N0 N1:Addr→Prop}{h h' hB hC:Heap}{c:Cx}{env:Env}{ρ:Rho}{ln:Option Addr}{o o':Nat→Addr}{z:V}{m:Md}{O OL:Orc}
noncomputable def stL(n:Nat):Stmt:=(fB 187).getD n (.Pass ⟨0,0,0,0⟩)
theorem fB187:fB 187=stL 0::stL 1::stL 2::restL:=by kernel_rfl
noncomputable section
noncomputable def codeS1:X:=K.xAsg 1 true (K.cList (K.cons (K.cBi .list (K.cons (K.cSlice (K.cN true 0) none (some (K.cLit (.int (.ofNat (.succ (nat_lit 7))))))) K.nil)) (K.cons (K.cLit (.int (.ofNat .zero))) K.nil)))
theorem shS1(OL O:Orc):cS OL (K.cE O 61) mL (cxF 187) 60 (stL 0)=codeS1:=by kernel_rfl
noncomputable def bLst:List V:=[.tuple [.int 2,.int 1],.tuple [.int (-2),.int 1],.tuple [.int 1,.int 2],.tuple [.int 3,.int 1]]
noncomputable def i1':V:=.int (.ofNat (.succ (nat_lit 0)))
noncomputable def i2':V:=.int (.ofNat (.succ (nat_lit 1)))
noncomputable def i3':V:=.int (.ofNat (.succ (nat_lit 2)))
noncomputable def two'(a b:D):D:=K.cTup (K.cons a (K.cons b K.nil))
noncomputable def codeLst:D:=K.cList (K.cons (two' (K.cLit i2') (K.cLit i1')) (K.cons (two' (K.cNeg (K.cLit i2')) (K.cLit i1')) (K.cons (two' (K.cLit i1') (K.cLit i2')) (K.cons (two' (K.cLit i3') (K.cLit i1')) K.nil))))
end
theorem shS2:∃ f b x1 x2 lst q1 q2 kk tp k2 vp p m1 m2 m3 p1 p2 p3 p4 p5 p6 p7 p8 p9 p10 p11,stL 1=.Assign [.Tuple [.Name x1 q1,.Name x2 q2] kk tp] (.Tuple [.BinOp (.Constant (.int 1) m1 p1) .Add (.Call (.Name f p2) [.Name b p3,.Constant (.int 3) m2 p4] [] p5) p6,.Subscript lst (.Call (.Name f p7) [.Name b p8,.Constant (.int 4) m3 p9] [] p10) p11] k2 vp) p∧
  f=fN 185∧(cxF 187).slot b=some 1∧(cxF 187).slot x1=some 2∧(cxF 187).slot x2=some 3∧(x1==x2)=false∧(cxF 187).isGlob f=true∧(∀ O,K.cE O 61 (cxF 187) false lst=codeLst)∧[PySem.Expr.BinOp (.Constant (.int 1) m1 p1) .Add (.Call (.Name f p2) [.Name b p3,.Constant (.int 3) m2 p4] [] p5) p6,.Subscript lst (.Call (.Name f p7) [.Name b p8,.Constant (.int 4) m3 p9] [] p10) p11].all (constantsAlone 8)=false:=
 ⟨_,_,_,_,_,_,_,_,_,_,_,_,_,_,_,_,_,_,_,_,_,_,_,_,_,_,rfl,by kernel_rfl,by kernel_rfl,by kernel_rfl,by kernel_rfl,by kernel_rfl,by kernel_rfl,fun _=>by kernel_rfl,by kernel_rfl⟩
theorem shS3:∃ f b turn y pt p' p1 p2 p3 p4 pc p m4 iter sc,stL 2=.Assign [.Name y p'] (.ListComp (.Call (.Name f p1) [.Name b p2,.Constant (.int 4) m4 p3] [] p4) [⟨.Name turn pt,iter,[],0⟩] sc pc) p∧
  f=fN 185∧okScope (cxF 187) sc [turn]=true∧(∀ O,K.itD (K.cE O 61) (cxF 187) false iter=some (1,[K.cN true 2]))∧(cxF 187).slot b=some 1∧sc.names.find? (fun p=>p.1==b&&p.2 == .free)=some (b,.free)∧((cxF 187).ofComp sc [turn]).slot b=some 1∧(b==turn)=false∧((cxF 187).ofComp sc [turn]).isGlob f=true∧(cxF 187).slot y=some 4∧
  (∀ (L a:Addr) (cd:Value),swapsWith (.ListComp (.Call (.Name f p1) [.Name b p2,.Constant (.int 4) m4 p3] [] p4) [⟨.Name turn pt,iter,[],0⟩] sc pc) (some (.Name y p')) p.line (envOfC (fN 187) (fS 187) L a cd)=pure true):=
 ⟨_,_,_,_,_,_,_,_,_,_,_,_,_,_,_,rfl,by kernel_rfl,by kernel_rfl,fun _=>by kernel_rfl,by kernel_rfl,by kernel_rfl,by kernel_rfl,by kernel_rfl,by kernel_rfl,by kernel_rfl,fun _ _ _=>congrArg pure (by kernel_rfl)⟩
theorem okLw:OkFn (cxF 187) (fP 187) (fS 187):=okFn_ok rfl (by kernel_rfl)
theorem lenLw:(fP 187).args.length=1∧(cxF 187).ls.length=13:=⟨by kernel_rfl,by kernel_rfl⟩
noncomputable def rL(vs:List V)(s1 s2 s3 s4:Sl):Rho:=[.va (.list vs),s1,s2,s3,s4,.un,.un,.un,.un,.un,.un,.un,.un]
theorem take8(vs:List V):vs.take (clipAt vs.length (Int.ofNat 8))=vs.take 8:=by
 rw[show clipAt vs.length (Int.ofNat 8)=min 8 vs.length from clipAt_nat vs.length 8]
 rcases Nat.le_total 8 vs.length with q | q
 ·rw[Nat.min_eq_left q]
 ·rw[Nat.min_eq_right q,List.take_of_length_le (Nat.le_refl _),List.take_of_length_le q]
theorem evS1(vs:List V)(hl:vs.length≤63)(kc kn:Rho→R):codeS1 kc kn (rL vs .un .un .un .un)=kn (rL vs (.ow (.list [.list (vs.take 8),.int ((0:Nat):Int)])) .un .un .un):=by
 have e:codeS1 kc kn (rL vs .un .un .un .un)=K.okL vs (K.takeK (K.clK (K.lenK vs) (Int.ofNat 8)) vs fun r=>K.okL r (kn (rL vs (.ow (.list [.list r,.int ((0:Nat):Int)])) .un .un .un))):=rfl
 rw[e,okL_of (by omega),K.takeK_eq,K.clK_eq,K.lenK_eq,take8,okL_of (by rw[List.length_take];omega)]
theorem takeV_lt{xs:List Int}{k m:Nat}(hm:0 < m):∃ j:Nat,j < m∧takeV xs k m=(j:Int):=by
 have key:∀ a:Int,∃ j:Nat,j < m∧Int.fmod a m=(j:Int):=fun a=>by
  have h1:=Int.fmod_nonneg_of_pos a (b:=(m:Int)) (by omega)
  have h2:=Int.fmod_lt_of_pos a (b:=(m:Int)) (by omega)
  exact⟨(Int.fmod a m).toNat,by omega,by omega⟩
 unfold takeV
 split
 ·exact key _
 ·exact key _
theorem drawn_bd{xs:List Int}:∀ (n k:Nat),∀ s∈drawn xs k n,0≤s∧s < 4
 | 0,k,s,m=>nomatch m
 | n + 1,k,s,m=>by
  rcases List.mem_cons.mp m with rfl | m
  ·obtain⟨j,hj,e⟩:=takeV_lt (xs:=xs) (k:=k) (m:=4) (by decide)
   rw[e];omega
  ·exact drawn_bd n (k + 1) s m
noncomputable def badV:V:=.dict [(.none,.none)]
theorem no_bad{b:Bool}{v:Value}(r:Rb w N b h v badV):False:=by
 refine bc fun gG=>?_
 obtain⟨a,es,n,ks,ds,_,e,_,ko,hl,_⟩:=rb_dict_inv r
 refine gG ?_
 match ks,ds,e with
 | k::ks,d::ds,e=>
  simp only[List.zip_cons_cons,List.cons.injEq,Prod.mk.injEq]at e
  refine bc fun gG=>?_
  obtain⟨⟨rfl,_⟩,_⟩:=e
  refine gG ?_
  generalize hk:(PyData.none:V)::ks=kk at ko
  cases ko with
  | @kI is x _=>cases is <;> simp at hk
  | @kS is x _=>cases is <;> simp at hk
  | kT x _=>
   subst hk
   cases x with
   | cons q _=>
    refine bc fun gG=>?_
    obtain⟨_,b',_,q,_⟩:=q
    refine gG ?_
    cases q
noncomputable def onlyB{α:Type}(x:α):α→R:=fun v=>open Classical in if v=x then some badV else none
theorem onlyB_self{α:Type}(x:α):onlyB x x=some badV:=by unfold onlyB;exact if_pos rfl
theorem onlyB_some{α:Type}{x v:α}(h:onlyB x v=some z):v=x:=by
 unfold onlyB at h
 by_cases q:v=x
 ·exact q
 ·rw[if_neg q]at h;cases h
theorem evRows(vs:List V)(s1 s3 s4:Sl)(j1:Nat)(hj1:j1 < 3)(kk:List (List V)→R):K.lD [K.cN true 2] (rL vs s1 (.va (.int ((1 + j1:Nat):Int))) s3 s4) (fun vs=>K.rowsK 1 vs kk)=kk ((List.range (1 + j1)).map fun (i:Nat)=>[(.int (i:Int):V)]):=by
 have key:j1=0∨j1=1∨j1=2:=by omega
 rcases key with rfl | rfl | rfl <;> rfl
theorem noTake:idxS (fN 185) 0 fnsT=none:=by kernel_rfl
theorem law_right(B:Bs w)(hT:FnAt w (fN 185) (fP 185) (fB 185) (fS 185))(hL:FnAt w (fN 187) (fP 187) (fB 187) (fS 187))(hA:OkA A 320)
  (HV:∀ (j1 j2:Nat) (sh:List Int),j1 < 3→j2 < 4→sh.length=1 + j1→(∀ s∈sh,0≤s∧s < 4)→lawV (.int ((1 + j1:Nat):Int)) (bLst.getD j2 .none) (.list (sh.map .int))=some (.bool true))
  {a:Addr} {v:Value} {xs:List Int} (hxs:xs.length≤63) (ha:w.fn (fN 187)=some (.ref a)) (gi:GI w fnsT litsT N s.heap) (lv:Live N s.heap) (rv:Rb w N false s.heap v (.list (xs.map .int))) {Q:Value→Shared→Prop} (out:∀ h' tk,Kp s.heap h'→Q (.bool true) (sx s h' tk)):
  wpAny (model prog w.w) A (call (.ref a) [v]) Q E s:=by
 have hh:A.handled=none:=hA.1
 refine wpAny_call (call_fn (by have:=hA.2.1;omega) B.lim hL okLw ha gi.base (by rw[lenLw.1];rfl) fun cd h₁ tk F X=>?_)
 have FF:=fn_start (c:=cxF 187) (ρ0:=[.va (.list (xs.map .int))]) (ln:=none) (N0:=N) (N:=N) okLw gi lv (Kp.refl _) (fun _ q=>q) (fun _ q=>.inl q) lv (by rw[lenLw.1];rfl) (by rw[lenLw.1];rfl) (fun j u sl ev es=>by
  cases j with
  | zero=>simp at ev es;subst ev es;exact rv
  | succ j=>simp at ev) (fun L0 q=>nomatch q) rfl F X
 have e0:([.va (.list (xs.map .int))]:Rho)++List.replicate ((cxF 187).ls.length - (fP 187).args.length) Sl.un=rL (xs.map .int) .un .un .un .un:=by rw[lenLw.1,lenLw.2];rfl
 rw[e0]at FF
 generalize hE:envOfC (fN 187) (fS 187) s.heap.objs.size a cd=env at FF ⊢
 have hA':OkA (A.deeper env) 319:=OkA.deeper hA
 have hu:(A.deeper env).units + 80 < cLine:=by have:=hA'.2.2;omega
 generalize A.deeper env=A' at hA' hu ⊢
 have cN:CallOk w A' (fun _ _=>none) fnsT litsT freshT:=fun f i xs z _ h=>nomatch h
 have lN:LendOk w A' (fun _ _=>none) fnsT litsT:=fun f i x ds z _ h=>nomatch h
 have HS:=cE_snd (w:=w) (A:=A') (O:=fun _ _=>none) hA'.1 hu 61
 obtain⟨HD,HT⟩:=HS (cxF 187) cN
 rw[fB187]
 have g1:cS (fun _ _=>none) (K.cE (fun _ _=>none) 61) mL (cxF 187) 60 (stL 0) (fun _=>none) (onlyB (rL (xs.map .int) (.ow (.list [.list ((xs.map (fun i=>(PyData.int i:V))).take 8),.int ((0:Nat):Int)])) .un .un .un)) (rL (xs.map .int) .un .un .un .un)=some badV:=by
  rw[shS1,evS1 _ (by rw[List.length_map];exact hxs)]
  exact onlyB_self _
 have X1:=cS_ok (w:=w) (A:=A') (O:=fun _ _=>none) (OL:=fun _ _=>none) (m:=mL) (c:=cxF 187) (k:=60) hA'.1 hu cN lN 60 (stL 0)
 refine wpAny_execs_cons (X1 env none _ _ _ _ _ _ (sx s h₁ tk) _ _ _ _ (fun _=>rfl) FF g1 fun fl h2 t2 P=>?_)
 cases fl with
 | brk=>exact P.elim
 | cont=>obtain⟨_,_,_,_,e⟩:=P;cases e
 | ret v=>obtain⟨_,r,_⟩:=P;exact(no_bad r).elim
 | next=>
  refine bc fun gG=>?_
  obtain⟨o2,N2,ρ2,F2,e⟩:=P
  refine gG ?_
  have e:=onlyB_some e
  rw[← List.map_take]at e
  subst e
  generalize hys:xs.take 8=ys at F2
  have hyl:ys.length≤1000000:=by rw[← hys,List.length_take];omega
  clear g1 X1
  refine bc fun gG=>?_
  obtain⟨f,b,x1,x2,lst,q1,q2,kk,tp,k2,vp,p,m1,m2,m3,p1,p2,p3,p4,p5,p6,p7,p8,p9,p10,p11,eS,hf,hb,hx1,hx2,hne,hg,hlst,hfold⟩:=shS2
  subst hf
  obtain⟨j1,hj1,e1⟩:=takeV_lt (xs:=ys) (k:=0) (m:=3) (by decide)
  obtain⟨j2,hj2,e2⟩:=takeV_lt (xs:=ys) (k:=1) (m:=4) (by decide)
  refine gG ?_
  refine wpAny_execs_cons ?_
  rw[eS]
  refine asg_two (hB:=s.heap) (hC:=s.heap) (N0:=N) hA'.1 hx1 hx2 (by simpa using hne) (.inr hfold) fun Q' fin=>?_
  refine wpAny_Tuple_spliced ?_
  rw[starEach_eq rfl]
  refine Calls.spliced_cons (wpAny_BinOp (wpAny_Constant_int (takeE (s:=(sx s h2 (t2 + 1))) (mm:=3) (k:=0) (ys:=ys) (ib:=1) B hT (hA'.le (by decide)) rfl rfl F2 hb hg rfl (by decide) (.inl rfl) hyl fun h3 t3 u3 F3 kB3=>add_int ?_)))
  have glst:codeLst (rL (xs.map .int) (.ow (.list [.list (ys.map .int),.int ((0 + 1:Nat):Int)])) .un .un .un) (onlyK (.list bLst))=some .none:=onlyK_self _
  have hl:=HD false lst
  rw[hlst]at hl
  have F3:FI w (cxF 187) env none s.heap s.heap N o2 N2 (rL (xs.map .int) (.ow (.list [.list (ys.map .int),.int ((0 + 1:Nat):Int)])) .un .un .un) h3:=F3
  refine Calls.spliced_cons (Subscript_ (hl.go (s:=(sx s h3 (t3 + 1))) F3.cd glst fun vl ul h4 t4 gl k4 rl=>?_))
  have gl:=onlyK_some gl
  subst gl
  have F4:=F3.keeps k4
  refine takeE (s:=(sx s h4 t4)) (mm:=4) (k:=1) (ys:=ys) (ib:=1) B hT (hA'.le (by decide)) rfl rfl F4 hb hg rfl (by decide) (.inr rfl) hyl fun h5 t5 u5 F5 kB5=>?_
  have F5:FI w (cxF 187) env none s.heap s.heap N o2 N2 (rL (xs.map .int) (.ow (.list [.list (ys.map .int),.int ((1 + 1:Nat):Int)])) .un .un .un) h5:=F5
  have hρ4:(rL (xs.map .int) (.ow (.list [.list (ys.map .int),.int ((0 + 1:Nat):Int)])) .un .un .un)[1]?=some (.ow (.list [.list (ys.map .int),.int ((0 + 1:Nat):Int)])):=rfl
  have rl5:Rb w N2 true h5 ul (.list bLst):=Rb.but (W:=fun a=>a=o2 1) (fun a q=>by subst q;exact(F4.ownN 1 _ hρ4).1) kB5 (notT_of (F4.ownT hρ4)) rl
  have gsub:GetR (.list bLst) (.int (takeV ys 1 4)) (bLst.getD j2 .none):=by
   rw[e2]
   rcases (by omega:j2=0∨j2=1∨j2=2∨j2=3) with rfl | rfl | rfl | rfl <;> exact .list ⟨by decide,_,rfl,rfl⟩
  refine op_sub (s:=(sx s h5 t5)) gsub nofun rl5 (rb_int _ _ _ _) fun vb rb=>Calls.spliced_nil ⟨show 2≤sizeLine by decide,?_⟩
  have k6:Kp h5 (h5.push { cls:=.type "tuple",data:=.seq #[.int (1 + takeV ys 0 3) t3,vb] }):=kp_push _ _
  have hTu:(h5.push { cls:=.type "tuple",data:=.seq #[.int (1 + takeV ys 0 3) t3,vb] }).get? h5.objs.size=some (tpl #[.int (1 + takeV ys 0 3) t3,vb] 0):=Heap.get?_push_size _ rfl
  refine fin _ t5 (.int (1 + takeV ys 0 3) t3) vb (.int ((1 + j1:Nat):Int)) (bLst.getD j2 .none) o2 N2 _ (F5.keeps k6) (by
   have:(1 + takeV ys 0 3)=((1 + j1:Nat):Int):=by rw[e1];omega
   rw[this];exact rb_int _ _ _ _) (rb.keeps k6) (fun h7 t7 o7 F7=>?_) _ ⟨_,hTu,rfl,_,rfl⟩ (isTup_of (vs:=[.int (1 + takeV ys 0 3) t3,vb]) hTu)
  have F7:FI w (cxF 187) env none s.heap s.heap N o7 N2 (rL (xs.map .int) (.ow (.list [.list (ys.map .int),.int ((2:Nat):Int)])) (.va (.int ((1 + j1:Nat):Int))) (.va (bLst.getD j2 .none)) .un) h7:=F7
  refine bc fun gG=>?_
  obtain⟨f3,b3,turn,y,pt,p',r1,r2,r3,r4,pc,pp,m4,iter,sc,eS3,hf3,hok,hit,hb3,hfind,hbs,hbt,hg3,hy,hsw⟩:=shS3
  refine gG ?_
  subst hf3
  refine wpAny_execs_cons ?_
  rw[eS3]
  have hsw':swapsWith (.ListComp (.Call (.Name (fN 185) r1) [.Name b3 r2,.Constant (.int 4) m4 r3] [] r4) [⟨.Name turn pt,iter,[],0⟩] sc pc) (some (.Name y p')) pp.line env=pure true:=by rw[← hE];exact hsw _ _ _
  refine draws (dI:=K.lD [K.cN true 2]) (s:=(sx s h7 t7)) (c:=cxF 187) (n:=1 + j1) (k0:=2) (xs:=ys) (iy:=4) (ib:=1) B hT (hA'.le (by decide)) rfl rfl HS cN hok ⟨_,hit _,rfl⟩ hb3 (List.mem_of_find?_eq_some hfind) hbs (by simpa using hbt) hg3 ⟨fN 185,noTake,rfl⟩ hy (by decide) (fun _=>hsw') F7 rfl (by omega) hyl (fun kk=>?_) fun h8 t8 o8 N8 F8=>?_
  ·exact evRows _ _ _ _ j1 hj1 kk
  have F9:=((F8.forget 0).forget 1)
  have F9:FI w (cxF 187) env none s.heap s.heap N o8 N8 (rho (.int ((1 + j1:Nat):Int)) (bLst.getD j2 .none) (.list ((drawn ys 2 (1 + j1)).map .int))) h8:=F9
  have gR:blk (cS (Oc []) (K.cE (Oc [44,124,125]) 61) mL (cxF 187) 60) restL (fun _=>none) (fun _=>some .none) (rho (.int ((1 + j1:Nat):Int)) (bLst.getD j2 .none) (.list ((drawn ys 2 (1 + j1)).map .int)))=some (.bool true):=by
   have hv:=HV j1 j2 _ hj1 hj2 (drawn_len ys (1 + j1) 2) (drawn_bd (1 + j1) 2)
   rw[shR]
   unfold lawV at hv
   exact hv
  have cR:CallOk w A' (Oc [44,124,125]) fnsT litsT freshT:=call_of hA' (oc_rt (All.mem (.cons ((r44 B).le (by decide)) (.cons ((r124 B).le (by decide)) (.cons ((r125 B).le (by decide)) .nil)))))
  have lR:LendOk w A' (Oc []) fnsT litsT:=lend_of hA' (oc_lt fun j q=>nomatch q)
  refine blk_ok (fun st=>cS_ok (A:=A') (m:=mL) (c:=cxF 187) (k:=60) hA'.1 hu cR lR 60 st) restL env none _ _ N _ _ _ (sx s h8 t8) _ _ _ _ (fun _=>rfl) F9 gR fun fl h9 t9 P=>?_
  cases fl with
  | next=>obtain⟨_,_,_,_,e⟩:=P;cases e
  | cont=>obtain⟨_,_,_,_,e⟩:=P;cases e
  | brk=>exact P.elim
  | ret v=>
   refine bc fun gG=>?_
   obtain⟨_,⟨as,r,_⟩,_,kp,_⟩:=P
   refine gG ?_
   cases r
   exact out h9 t9 kp
end Mine
end
noncomputable section
open PySem
namespace Mine
section
set_option maxRecDepth 1000000
set_option maxHeartbeats 0
noncomputable def base0:V:=.tuple [.int (.ofNat (.succ (nat_lit 1))),.int (.ofNat (.succ (nat_lit 0)))]
noncomputable def base1:V:=.tuple [.int (Int.negSucc (Nat.succ (nat_lit 0))),.int (.ofNat (.succ (nat_lit 0)))]
noncomputable def base2:V:=.tuple [.int (.ofNat (.succ (nat_lit 0))),.int (.ofNat (.succ (nat_lit 1)))]
noncomputable def base3:V:=.tuple [.int (.ofNat (.succ (nat_lit 2))),.int (.ofNat (.succ (nat_lit 0)))]
noncomputable def lstN(sh:List Nat)(k:List V→K.R):K.R:=@List.rec Nat (fun _=>(List V→K.R)→K.R) (fun k=>k []) (fun a _ ih k=>K.sN a fun a=>ih fun r=>k (.int (Int.ofNat a)::r)) sh k
noncomputable def runN(b:V)(sh:List Nat):Bool:=isT (K.sN (K.lenK sh) fun n=>lstN sh fun l=>lawV (.int (Int.ofNat n)) b (.list l))
noncomputable def chk(sh:List Nat):Bool:=runN base0 sh&&(runN base1 sh&&(runN base2 sh&&runN base3 sh))
theorem tv0:([[0]]:List (List Nat)).all chk=true:=by decide +kernel
theorem tv1:([[1]]:List (List Nat)).all chk=true:=by decide +kernel
theorem tv2:([[2]]:List (List Nat)).all chk=true:=by decide +kernel
theorem tv3:([[3]]:List (List Nat)).all chk=true:=by decide +kernel
theorem tv4:([[0,0]]:List (List Nat)).all chk=true:=by decide +kernel
theorem tv5:([[0,1],[1,0]]:List (List Nat)).all chk=true:=by decide +kernel
theorem tv6:([[0,2],[2,0]]:List (List Nat)).all chk=true:=by decide +kernel
theorem tv7:([[0,3],[3,0]]:List (List Nat)).all chk=true:=by decide +kernel
theorem tv8:([[1,1]]:List (List Nat)).all chk=true:=by decide +kernel
theorem tv9:([[1,2],[2,1]]:List (List Nat)).all chk=true:=by decide +kernel
theorem tv10:([[1,3],[3,1]]:List (List Nat)).all chk=true:=by decide +kernel
theorem tv11:([[2,2]]:List (List Nat)).all chk=true:=by decide +kernel
theorem tv12:([[2,3],[3,2]]:List (List Nat)).all chk=true:=by decide +kernel
theorem tv13:([[3,3]]:List (List Nat)).all chk=true:=by decide +kernel
theorem tv14:([[0,0,0]]:List (List Nat)).all chk=true:=by decide +kernel
theorem tv15:([[0,0,1],[0,1,0],[1,0,0]]:List (List Nat)).all chk=true:=by decide +kernel
theorem tv16:([[0,0,2],[0,2,0],[2,0,0]]:List (List Nat)).all chk=true:=by decide +kernel
theorem tv17:([[0,0,3],[0,3,0],[3,0,0]]:List (List Nat)).all chk=true:=by decide +kernel
theorem tv18:([[0,1,1],[1,0,1],[1,1,0]]:List (List Nat)).all chk=true:=by decide +kernel
theorem tv19:([[0,1,2],[0,2,1],[1,0,2],[1,2,0],[2,0,1],[2,1,0]]:List (List Nat)).all chk=true:=by decide +kernel
theorem tv20:([[0,1,3],[0,3,1],[1,0,3],[1,3,0],[3,0,1],[3,1,0]]:List (List Nat)).all chk=true:=by decide +kernel
theorem tv21:([[0,2,2],[2,0,2],[2,2,0]]:List (List Nat)).all chk=true:=by decide +kernel
theorem tv22:([[0,2,3],[0,3,2],[2,0,3],[2,3,0],[3,0,2],[3,2,0]]:List (List Nat)).all chk=true:=by decide +kernel
theorem tv23:([[0,3,3],[3,0,3],[3,3,0]]:List (List Nat)).all chk=true:=by decide +kernel
theorem tv24:([[1,1,1]]:List (List Nat)).all chk=true:=by decide +kernel
theorem tv25:([[1,1,2],[1,2,1],[2,1,1]]:List (List Nat)).all chk=true:=by decide +kernel
theorem tv26:([[1,1,3],[1,3,1],[3,1,1]]:List (List Nat)).all chk=true:=by decide +kernel
theorem tv27:([[1,2,2],[2,1,2],[2,2,1]]:List (List Nat)).all chk=true:=by decide +kernel
theorem tv28:([[1,2,3],[1,3,2],[2,1,3],[2,3,1],[3,1,2],[3,2,1]]:List (List Nat)).all chk=true:=by decide +kernel
theorem tv29:([[1,3,3],[3,1,3],[3,3,1]]:List (List Nat)).all chk=true:=by decide +kernel
theorem tv30:([[2,2,2]]:List (List Nat)).all chk=true:=by decide +kernel
theorem tv31:([[2,2,3],[2,3,2],[3,2,2]]:List (List Nat)).all chk=true:=by decide +kernel
theorem tv32:([[2,3,3],[3,2,3],[3,3,2]]:List (List Nat)).all chk=true:=by decide +kernel
theorem tv33:([[3,3,3]]:List (List Nat)).all chk=true:=by decide +kernel
end
end Mine
end
noncomputable section
open PySem PySem.W PyProof.Rows
namespace Mine
noncomputable def tab:List (List (List Nat)):=[[[0]],[[1]],[[2]],[[3]],[[0,0]],[[0,1],[1,0]],[[0,2],[2,0]],[[0,3],[3,0]],[[1,1]],[[1,2],[2,1]],[[1,3],[3,1]],[[2,2]],[[2,3],[3,2]],[[3,3]],[[0,0,0]],[[0,0,1],[0,1,0],[1,0,0]],[[0,0,2],[0,2,0],[2,0,0]],[[0,0,3],[0,3,0],[3,0,0]],[[0,1,1],[1,0,1],[1,1,0]],[[0,1,2],[0,2,1],[1,0,2],[1,2,0],[2,0,1],[2,1,0]],[[0,1,3],[0,3,1],[1,0,3],[1,3,0],[3,0,1],[3,1,0]],[[0,2,2],[2,0,2],[2,2,0]],[[0,2,3],[0,3,2],[2,0,3],[2,3,0],[3,0,2],[3,2,0]],[[0,3,3],[3,0,3],[3,3,0]],[[1,1,1]],[[1,1,2],[1,2,1],[2,1,1]],[[1,1,3],[1,3,1],[3,1,1]],[[1,2,2],[2,1,2],[2,2,1]],[[1,2,3],[1,3,2],[2,1,3],[2,3,1],[3,1,2],[3,2,1]],[[1,3,3],[3,1,3],[3,3,1]],[[2,2,2]],[[2,2,3],[2,3,2],[3,2,2]],[[2,3,3],[3,2,3],[3,3,2]],[[3,3,3]]]
theorem all_cons{α:Type}{p:α→Prop}{a:α}{l:List α}(h:p a)(t:∀ x∈l,p x):∀ x∈a::l,p x:=List.forall_mem_cons.mpr ⟨h,t⟩
theorem tab_ok:∀ c∈tab,c.all chk=true:=
 all_cons tv0 (all_cons tv1 (all_cons tv2 (all_cons tv3 (all_cons tv4 (all_cons tv5 (all_cons tv6 (all_cons tv7 (all_cons tv8 (all_cons tv9 (all_cons tv10 (all_cons tv11 (all_cons tv12 (all_cons tv13 (all_cons tv14 (all_cons tv15 (all_cons tv16 (all_cons tv17 (all_cons tv18 (all_cons tv19 (all_cons tv20 (all_cons tv21 (all_cons tv22 (all_cons tv23 (all_cons tv24 (all_cons tv25 (all_cons tv26 (all_cons tv27 (all_cons tv28 (all_cons tv29 (all_cons tv30 (all_cons tv31 (all_cons tv32 (all_cons tv33 (nofun))))))))))))))))))))))))))))))))))
theorem isT_some{o:Option V}(h:isT o=true):o=some (.bool true):=by
 cases o with
 | none=>cases h
 | some d=>
  cases d with
  | bool b=>exact congrArg (fun b=>some (PyData.bool b)) h
  | _=>cases h
theorem lstN_eq(sh:List Nat)(k:List V→K.R):lstN sh k=k (sh.map fun a=>.int (Int.ofNat a)):=by
 induction sh generalizing k with
 | nil=>rfl
 | cons a sh ih=>
  refine(K.sN_eq a fun a=>lstN sh fun r=>k (.int (Int.ofNat a)::r)).trans ?_
  exact ih fun r=>k (.int (Int.ofNat a)::r)
theorem runN_ok{b:V}{sh:List Nat}(h:runN b sh=true):lawV (.int (Int.ofNat sh.length)) b (.list (sh.map fun a=>.int (Int.ofNat a)))=some (.bool true):=by
 refine Eq.trans ?_ (isT_some h)
 rw[K.sN_eq,lstN_eq,K.lenK_eq]
theorem chk_ok{sh:List Nat}(h:chk sh=true){j:Nat}(hj:j < 4):lawV (.int (Int.ofNat sh.length)) (bLst.getD j .none) (.list (sh.map fun a=>.int (Int.ofNat a)))=some (.bool true):=by
 unfold chk at h
 rw[Bool.and_eq_true,Bool.and_eq_true,Bool.and_eq_true]at h
 rcases (by omega:j=0∨j=1∨j=2∨j=3) with rfl | rfl | rfl | rfl
 ·exact(show base0=bLst.getD 0 .none from rfl)▸runN_ok h.1
 ·exact(show base1=bLst.getD 1 .none from rfl)▸runN_ok h.2.1
 ·exact(show base2=bLst.getD 2 .none from rfl)▸runN_ok h.2.2.1
 ·exact(show base3=bLst.getD 3 .none from rfl)▸runN_ok h.2.2.2
theorem mem1:((List.range 4).all fun a=>tab.any fun c=>c.contains [a])=true:=by decide +kernel
theorem mem2:((List.range 4).all fun a=>(List.range 4).all fun b=>tab.any fun c=>c.contains [a,b])=true:=by decide +kernel
theorem mem3:((List.range 4).all fun a=>(List.range 4).all fun b=>(List.range 4).all fun d=>tab.any fun c=>c.contains [a,b,d])=true:=by decide +kernel
theorem rng{p:Nat→Bool}(h:(List.range 4).all p=true){a:Nat}(ha:a < 4):p a=true:=List.all_eq_true.mp h a (List.mem_range.mpr ha)
theorem tab_mem{sh:List Nat}(h:(tab.any fun c=>c.contains sh)=true):chk sh=true:=by
 obtain⟨c,hc,hs⟩:=List.any_eq_true.mp h
 exact List.all_eq_true.mp (tab_ok c hc) sh (List.contains_iff_mem.mp hs)
theorem chk_all{sh:List Nat}(h1:1≤sh.length)(h3:sh.length≤3)(hb:∀ a∈sh,a < 4):chk sh=true:=by
 cases sh with
 | nil=>exact absurd h1 (by decide)
 | cons a sh=>
 have ha:=hb a (.head _)
 cases sh with
 | nil=>exact tab_mem (rng mem1 ha)
 | cons b sh=>
 have hb2:=hb b (.tail _ (.head _))
 cases sh with
 | nil=>exact tab_mem (rng (rng mem2 ha) hb2)
 | cons d sh=>
 cases sh with
 | nil=>exact tab_mem (rng (rng (rng mem3 ha) hb2) (hb d (.tail _ (.tail _ (.head _)))))
 | cons e sh=>exact absurd h3 (by simp only[List.length_cons];omega)
theorem back(sh:List Int)(hb:∀ s∈sh,0≤s):(sh.map Int.toNat).map (fun a=>PyData.int (Int.ofNat a))=sh.map .int:=by
 rw[List.map_map]
 exact List.map_congr_left fun s m=>congrArg PyData.int (Int.toNat_of_nonneg (hb s m))
noncomputable def HVal(j1 j2:Nat)(sh:List Int):Prop:=lawV (.int ((1 + j1:Nat):Int)) (bLst.getD j2 .none) (.list (sh.map .int))=some (.bool true)
theorem HV_ok(j1 j2:Nat)(sh:List Int)(h1:j1 < 3)(h2:j2 < 4)(hl:sh.length=1 + j1)(hb:∀ s∈sh,0≤s∧s < 4):HVal j1 j2 sh:=by
 have l:(sh.map Int.toNat).length=1 + j1:=(List.length_map _).trans hl
 have q:=chk_ok (chk_all (sh:=sh.map Int.toNat) (by omega) (by omega) fun a m=>by
  obtain⟨s,ms,rfl⟩:=List.mem_map.mp m
  have:=hb s ms
  omega) h2
 rw[l,back sh fun s m=>(hb s m).1]at q
 exact q
end Mine
end
noncomputable section
open PySem PySem.W PySem.W.X PyProof.Rows
namespace Mine
open MineH
section
set_option tactic.hygienic true
noncomputable section
structure Fa where
 f:Str
 k:Nat
 a:Nat
 c:Nat
noncomputable def faT:List Fa:=[⟨⟨⟨[nat_lit 103,nat_lit 99,nat_lit 100]⟩⟩,3,41,40⟩,⟨⟨⟨[nat_lit 103,nat_lit 99,nat_lit 100,nat_lit 95,nat_lit 97,nat_lit 108,nat_lit 108]⟩⟩,5,55,54⟩,⟨⟨⟨[nat_lit 114,nat_lit 97,nat_lit 116]⟩⟩,12,78,77⟩,⟨⟨⟨[nat_lit 114,nat_lit 97,nat_lit 100,nat_lit 100]⟩⟩,13,85,84⟩,⟨⟨⟨[nat_lit 114,nat_lit 115,nat_lit 117,nat_lit 98]⟩⟩,14,92,91⟩,⟨⟨⟨[nat_lit 114,nat_lit 109,nat_lit 117,nat_lit 108]⟩⟩,15,99,98⟩,⟨⟨⟨[nat_lit 114,nat_lit 100,nat_lit 105,nat_lit 118]⟩⟩,16,106,105⟩,⟨⟨⟨[nat_lit 114,nat_lit 110,nat_lit 101,nat_lit 103]⟩⟩,17,113,112⟩,⟨⟨⟨[nat_lit 114,nat_lit 105,nat_lit 110,nat_lit 118]⟩⟩,18,120,119⟩,⟨⟨⟨[nat_lit 114,nat_lit 112,nat_lit 111,nat_lit 119,nat_lit 101,nat_lit 114]⟩⟩,19,127,126⟩,⟨⟨⟨[nat_lit 116,nat_lit 95,nat_lit 110,nat_lit 117,nat_lit 109]⟩⟩,26,151,150⟩,⟨⟨⟨[nat_lit 116,nat_lit 95,nat_lit 115,nat_lit 121,nat_lit 109]⟩⟩,27,158,157⟩,⟨⟨⟨[nat_lit 116,nat_lit 95,nat_lit 115,nat_lit 117,nat_lit 109]⟩⟩,28,165,164⟩,⟨⟨⟨[nat_lit 116,nat_lit 95,nat_lit 112,nat_lit 114,nat_lit 111,nat_lit 100]⟩⟩,29,172,171⟩,⟨⟨⟨[nat_lit 116,nat_lit 95,nat_lit 112,nat_lit 111,nat_lit 119]⟩⟩,30,179,178⟩,⟨⟨⟨[nat_lit 105,nat_lit 115,nat_lit 95,nat_lit 110,nat_lit 117,nat_lit 109]⟩⟩,31,186,185⟩,⟨⟨⟨[nat_lit 110,nat_lit 117,nat_lit 109,nat_lit 95,nat_lit 111,nat_lit 102]⟩⟩,32,193,192⟩,⟨⟨⟨[nat_lit 105,nat_lit 115,nat_lit 95,nat_lit 119,nat_lit 104,nat_lit 111,nat_lit 108,nat_lit 101,nat_lit 95,nat_lit 110,nat_lit 117,nat_lit 109]⟩⟩,33,200,199⟩,⟨⟨⟨[nat_lit 105,nat_lit 110,nat_lit 110,nat_lit 101,nat_lit 114,nat_lit 95,nat_lit 116,nat_lit 101,nat_lit 114,nat_lit 109,nat_lit 115]⟩⟩,34,207,206⟩,⟨⟨⟨[nat_lit 97,nat_lit 108,nat_lit 108,nat_lit 95,nat_lit 116,nat_lit 101,nat_lit 114,nat_lit 109,nat_lit 115]⟩⟩,35,214,213⟩,⟨⟨⟨[nat_lit 102,nat_lit 114,nat_lit 101,nat_lit 101,nat_lit 95,nat_lit 108,nat_lit 101,nat_lit 116,nat_lit 116,nat_lit 101,nat_lit 114,nat_lit 115]⟩⟩,36,219,218⟩,⟨⟨⟨[nat_lit 99,nat_lit 111,nat_lit 110,nat_lit 116,nat_lit 97,nat_lit 105,nat_lit 110,nat_lit 115,nat_lit 95,nat_lit 108,nat_lit 101,nat_lit 116,nat_lit 116,nat_lit 101,nat_lit 114]⟩⟩,37,226,225⟩,⟨⟨⟨[nat_lit 115,nat_lit 105,nat_lit 103,nat_lit 110,nat_lit 95,nat_lit 98,nat_lit 101,nat_lit 116,nat_lit 119,nat_lit 101,nat_lit 101,nat_lit 110]⟩⟩,40,234,233⟩,⟨⟨⟨[nat_lit 99,nat_lit 111,nat_lit 109,nat_lit 112,nat_lit 97,nat_lit 114,nat_lit 101,nat_lit 95,nat_lit 118,nat_lit 97,nat_lit 108,nat_lit 117,nat_lit 101,nat_lit 115]⟩⟩,41,241,240⟩,⟨⟨⟨[nat_lit 98,nat_lit 97,nat_lit 114,nat_lit 101,nat_lit 95,nat_lit 102,nat_lit 97,nat_lit 99,nat_lit 116,nat_lit 111,nat_lit 114,nat_lit 115]⟩⟩,42,246,245⟩,⟨⟨⟨[nat_lit 102,nat_lit 114,nat_lit 111,nat_lit 110,nat_lit 116,nat_lit 95,nat_lit 118,nat_lit 97,nat_lit 108,nat_lit 117,nat_lit 101]⟩⟩,43,253,252⟩,⟨⟨⟨[nat_lit 98,nat_lit 97,nat_lit 115,nat_lit 101,nat_lit 95,nat_lit 97,nat_lit 110,nat_lit 100,nat_lit 95,nat_lit 101,nat_lit 120,nat_lit 112,nat_lit 111,nat_lit 110,nat_lit 101,nat_lit 110,nat_lit 116]⟩⟩,44,260,259⟩,⟨⟨⟨[nat_lit 99,nat_lit 111,nat_lit 109,nat_lit 112,nat_lit 97,nat_lit 114,nat_lit 101,nat_lit 95,nat_lit 114,nat_lit 111,nat_lit 119,nat_lit 115]⟩⟩,45,267,266⟩,⟨⟨⟨[nat_lit 99,nat_lit 111,nat_lit 109,nat_lit 112,nat_lit 97,nat_lit 114,nat_lit 101,nat_lit 95,nat_lit 101,nat_lit 120,nat_lit 112,nat_lit 111,nat_lit 110,nat_lit 101,nat_lit 110,nat_lit 116,nat_lit 115]⟩⟩,46,274,273⟩,⟨⟨⟨[nat_lit 99,nat_lit 111,nat_lit 109,nat_lit 112,nat_lit 97,nat_lit 114,nat_lit 101,nat_lit 95,nat_lit 98,nat_lit 97,nat_lit 115,nat_lit 101,nat_lit 115]⟩⟩,47,281,280⟩,⟨⟨⟨[nat_lit 99,nat_lit 111,nat_lit 109,nat_lit 112,nat_lit 97,nat_lit 114,nat_lit 101,nat_lit 95,nat_lit 102,nat_lit 97,nat_lit 99,nat_lit 116,nat_lit 111,nat_lit 114,nat_lit 115]⟩⟩,48,288,287⟩,⟨⟨⟨[nat_lit 99,nat_lit 111,nat_lit 109,nat_lit 112,nat_lit 97,nat_lit 114,nat_lit 101,nat_lit 95,nat_lit 116,nat_lit 101,nat_lit 114,nat_lit 109,nat_lit 115]⟩⟩,49,295,294⟩,⟨⟨⟨[nat_lit 109,nat_lit 101,nat_lit 114,nat_lit 103,nat_lit 101,nat_lit 100,nat_lit 95,nat_lit 116,nat_lit 101,nat_lit 114,nat_lit 109,nat_lit 115]⟩⟩,50,302,301⟩,⟨⟨⟨[nat_lit 115,nat_lit 111,nat_lit 114,nat_lit 116,nat_lit 95,nat_lit 116,nat_lit 101,nat_lit 114,nat_lit 109,nat_lit 115]⟩⟩,51,309,308⟩,⟨⟨⟨[nat_lit 110,nat_lit 117,nat_lit 109,nat_lit 98,nat_lit 101,nat_lit 114,nat_lit 95,nat_lit 116,nat_lit 101,nat_lit 114,nat_lit 109]⟩⟩,61,323,322⟩,⟨⟨⟨[nat_lit 110,nat_lit 117,nat_lit 109,nat_lit 98,nat_lit 101,nat_lit 114,nat_lit 95,nat_lit 97,nat_lit 110,nat_lit 100,nat_lit 95,nat_lit 114,nat_lit 101,nat_lit 115,nat_lit 116]⟩⟩,62,330,329⟩,⟨⟨⟨[nat_lit 119,nat_lit 105,nat_lit 116,nat_lit 104,nat_lit 95,nat_lit 110,nat_lit 117,nat_lit 109,nat_lit 98,nat_lit 101,nat_lit 114]⟩⟩,63,337,336⟩,⟨⟨⟨[nat_lit 102,nat_lit 108,nat_lit 97,nat_lit 116,nat_lit 95,nat_lit 112,nat_lit 97,nat_lit 114,nat_lit 116,nat_lit 115]⟩⟩,64,344,343⟩,⟨⟨⟨[nat_lit 103,nat_lit 97,nat_lit 116,nat_lit 104,nat_lit 101,nat_lit 114,nat_lit 101,nat_lit 100,nat_lit 95,nat_lit 115,nat_lit 117,nat_lit 109]⟩⟩,65,349,348⟩,⟨⟨⟨[nat_lit 105,nat_lit 115,nat_lit 95,nat_lit 111,nat_lit 110,nat_lit 101,nat_lit 95,nat_lit 99,nat_lit 97,nat_lit 108,nat_lit 108]⟩⟩,66,356,355⟩,⟨⟨⟨[nat_lit 97,nat_lit 115,nat_lit 95,nat_lit 112,nat_lit 111,nat_lit 119,nat_lit 101,nat_lit 114]⟩⟩,67,363,362⟩,⟨⟨⟨[nat_lit 103,nat_lit 97,nat_lit 116,nat_lit 104,nat_lit 101,nat_lit 114,nat_lit 101,nat_lit 100,nat_lit 95,nat_lit 112,nat_lit 114,nat_lit 111,nat_lit 100,nat_lit 117,nat_lit 99,nat_lit 116]⟩⟩,68,370,369⟩,⟨⟨⟨[nat_lit 112,nat_lit 111,nat_lit 119,nat_lit 101,nat_lit 114,nat_lit 95,nat_lit 111,nat_lit 102]⟩⟩,69,375,374⟩,⟨⟨⟨[nat_lit 110,nat_lit 117,nat_lit 109,nat_lit 98,nat_lit 101,nat_lit 114,nat_lit 95,nat_lit 112,nat_lit 111,nat_lit 119,nat_lit 101,nat_lit 114]⟩⟩,71,389,388⟩,⟨⟨⟨[nat_lit 115,nat_lit 105,nat_lit 109,nat_lit 112,nat_lit 108,nat_lit 105,nat_lit 102,nat_lit 121]⟩⟩,79,441,440⟩,⟨⟨⟨[nat_lit 115,nat_lit 117,nat_lit 109,nat_lit 95,nat_lit 112,nat_lit 97,nat_lit 114,nat_lit 116,nat_lit 115]⟩⟩,81,448,447⟩,⟨⟨⟨[nat_lit 109,nat_lit 117,nat_lit 108,nat_lit 95,nat_lit 111,nat_lit 117,nat_lit 116]⟩⟩,82,453,452⟩,⟨⟨⟨[nat_lit 109,nat_lit 117,nat_lit 108,nat_lit 95,nat_lit 97,nat_lit 108,nat_lit 108,nat_lit 95,nat_lit 111,nat_lit 117,nat_lit 116]⟩⟩,83,460,459⟩,⟨⟨⟨[nat_lit 112,nat_lit 111,nat_lit 119,nat_lit 101,nat_lit 114,nat_lit 95,nat_lit 111,nat_lit 117,nat_lit 116]⟩⟩,84,467,466⟩,⟨⟨⟨[nat_lit 101,nat_lit 120,nat_lit 112,nat_lit 97,nat_lit 110,nat_lit 100,nat_lit 95,nat_lit 112,nat_lit 111,nat_lit 119,nat_lit 101,nat_lit 114]⟩⟩,85,474,473⟩,⟨⟨⟨[nat_lit 101,nat_lit 120,nat_lit 112,nat_lit 97,nat_lit 110,nat_lit 100,nat_lit 95,nat_lit 111,nat_lit 110,nat_lit 99,nat_lit 101]⟩⟩,86,479,478⟩,⟨⟨⟨[nat_lit 101,nat_lit 120,nat_lit 112,nat_lit 97,nat_lit 110,nat_lit 100]⟩⟩,87,486,485⟩,⟨⟨⟨[nat_lit 122,nat_lit 116,nat_lit 114,nat_lit 105,nat_lit 109]⟩⟩,93,514,513⟩,⟨⟨⟨[nat_lit 122,nat_lit 100,nat_lit 101,nat_lit 103,nat_lit 114,nat_lit 101,nat_lit 101]⟩⟩,94,521,520⟩,⟨⟨⟨[nat_lit 122,nat_lit 108,nat_lit 101,nat_lit 97,nat_lit 100]⟩⟩,95,528,527⟩,⟨⟨⟨[nat_lit 122,nat_lit 97,nat_lit 100,nat_lit 100]⟩⟩,96,533,532⟩,⟨⟨⟨[nat_lit 122,nat_lit 110,nat_lit 101,nat_lit 103]⟩⟩,97,538,537⟩,⟨⟨⟨[nat_lit 122,nat_lit 115,nat_lit 117,nat_lit 98]⟩⟩,98,545,544⟩,⟨⟨⟨[nat_lit 122,nat_lit 115,nat_lit 99,nat_lit 97,nat_lit 108,nat_lit 101]⟩⟩,99,550,549⟩,⟨⟨⟨[nat_lit 122,nat_lit 114,nat_lit 97,nat_lit 105,nat_lit 115,nat_lit 101]⟩⟩,100,557,556⟩,⟨⟨⟨[nat_lit 122,nat_lit 99,nat_lit 111,nat_lit 110,nat_lit 116,nat_lit 101,nat_lit 110,nat_lit 116]⟩⟩,101,564,563⟩,⟨⟨⟨[nat_lit 122,nat_lit 100,nat_lit 105,nat_lit 118,nat_lit 105,nat_lit 100,nat_lit 101,nat_lit 100]⟩⟩,102,569,568⟩,⟨⟨⟨[nat_lit 122,nat_lit 112,nat_lit 114,nat_lit 105,nat_lit 109,nat_lit 105,nat_lit 116,nat_lit 105,nat_lit 118,nat_lit 101]⟩⟩,103,576,575⟩,⟨⟨⟨[nat_lit 122,nat_lit 115,nat_lit 104,nat_lit 105,nat_lit 102,nat_lit 116]⟩⟩,104,583,582⟩,⟨⟨⟨[nat_lit 113,nat_lit 116,nat_lit 114,nat_lit 105,nat_lit 109]⟩⟩,106,590,589⟩,⟨⟨⟨[nat_lit 113,nat_lit 100,nat_lit 101,nat_lit 103,nat_lit 114,nat_lit 101,nat_lit 101]⟩⟩,107,597,596⟩,⟨⟨⟨[nat_lit 113,nat_lit 108,nat_lit 101,nat_lit 97,nat_lit 100]⟩⟩,108,604,603⟩,⟨⟨⟨[nat_lit 113,nat_lit 97,nat_lit 100,nat_lit 100]⟩⟩,109,609,608⟩,⟨⟨⟨[nat_lit 113,nat_lit 110,nat_lit 101,nat_lit 103]⟩⟩,110,614,613⟩,⟨⟨⟨[nat_lit 113,nat_lit 115,nat_lit 117,nat_lit 98]⟩⟩,111,621,620⟩,⟨⟨⟨[nat_lit 113,nat_lit 115,nat_lit 99,nat_lit 97,nat_lit 108,nat_lit 101]⟩⟩,112,626,625⟩,⟨⟨⟨[nat_lit 113,nat_lit 114,nat_lit 97,nat_lit 105,nat_lit 115,nat_lit 101]⟩⟩,113,633,632⟩,⟨⟨⟨[nat_lit 113,nat_lit 109,nat_lit 117,nat_lit 108]⟩⟩,114,640,639⟩,⟨⟨⟨[nat_lit 113,nat_lit 100,nat_lit 105,nat_lit 118,nat_lit 109,nat_lit 111,nat_lit 100]⟩⟩,115,647,646⟩,⟨⟨⟨[nat_lit 113,nat_lit 109,nat_lit 111,nat_lit 110,nat_lit 105,nat_lit 99]⟩⟩,116,654,653⟩,⟨⟨⟨[nat_lit 113,nat_lit 103,nat_lit 99,nat_lit 100]⟩⟩,117,661,660⟩,⟨⟨⟨[nat_lit 113,nat_lit 99,nat_lit 111,nat_lit 109,nat_lit 112,nat_lit 111,nat_lit 115,nat_lit 101]⟩⟩,118,668,667⟩,⟨⟨⟨[nat_lit 116,nat_lit 111,nat_lit 95,nat_lit 122]⟩⟩,119,673,672⟩,⟨⟨⟨[nat_lit 102,nat_lit 109,nat_lit 97,nat_lit 107,nat_lit 101]⟩⟩,123,686,685⟩,⟨⟨⟨[nat_lit 102,nat_lit 110,nat_lit 117,nat_lit 109,nat_lit 98,nat_lit 101,nat_lit 114]⟩⟩,125,700,699⟩,⟨⟨⟨[nat_lit 102,nat_lit 97,nat_lit 100,nat_lit 100]⟩⟩,126,707,706⟩,⟨⟨⟨[nat_lit 102,nat_lit 109,nat_lit 117,nat_lit 108]⟩⟩,127,714,713⟩,⟨⟨⟨[nat_lit 102,nat_lit 100,nat_lit 105,nat_lit 118]⟩⟩,129,728,727⟩,⟨⟨⟨[nat_lit 102,nat_lit 112,nat_lit 111,nat_lit 119,nat_lit 101,nat_lit 114]⟩⟩,130,735,734⟩,⟨⟨⟨[nat_lit 119,nat_lit 104,nat_lit 111,nat_lit 108,nat_lit 101,nat_lit 95,nat_lit 101,nat_lit 120,nat_lit 112,nat_lit 111,nat_lit 110,nat_lit 101,nat_lit 110,nat_lit 116]⟩⟩,132,742,741⟩,⟨⟨⟨[nat_lit 102,nat_lit 114,nat_lit 111,nat_lit 109,nat_lit 95,nat_lit 116,nat_lit 101,nat_lit 114,nat_lit 109]⟩⟩,133,749,748⟩,⟨⟨⟨[nat_lit 114,nat_lit 97,nat_lit 116,nat_lit 95,nat_lit 116,nat_lit 101,nat_lit 114,nat_lit 109]⟩⟩,134,756,755⟩,⟨⟨⟨[nat_lit 112,nat_lit 111,nat_lit 108,nat_lit 121,nat_lit 95,nat_lit 116,nat_lit 101,nat_lit 114,nat_lit 109]⟩⟩,135,763,762⟩,⟨⟨⟨[nat_lit 116,nat_lit 111,nat_lit 95,nat_lit 116,nat_lit 101,nat_lit 114,nat_lit 109]⟩⟩,136,770,769⟩,⟨⟨⟨[nat_lit 105,nat_lit 110,nat_lit 95,nat_lit 108,nat_lit 101,nat_lit 116,nat_lit 116,nat_lit 101,nat_lit 114]⟩⟩,137,777,776⟩,⟨⟨⟨[nat_lit 99,nat_lit 104,nat_lit 101,nat_lit 99,nat_lit 107,nat_lit 95,nat_lit 98,nat_lit 111,nat_lit 116,nat_lit 116,nat_lit 111,nat_lit 109]⟩⟩,139,784,783⟩,⟨⟨⟨[nat_lit 112,nat_lit 115,nat_lit 101,nat_lit 117,nat_lit 100,nat_lit 111]⟩⟩,140,791,790⟩,⟨⟨⟨[nat_lit 100,nat_lit 105,nat_lit 118,nat_lit 105,nat_lit 100,nat_lit 101,nat_lit 100]⟩⟩,142,796,795⟩,⟨⟨⟨[nat_lit 102,nat_lit 117,nat_lit 108,nat_lit 108,nat_lit 95,nat_lit 114,nat_lit 101,nat_lit 115,nat_lit 116]⟩⟩,143,801,800⟩,⟨⟨⟨[nat_lit 114,nat_lit 111,nat_lit 119,nat_lit 95,nat_lit 114,nat_lit 101,nat_lit 115,nat_lit 117,nat_lit 108,nat_lit 116,nat_lit 97,nat_lit 110,nat_lit 116]⟩⟩,144,808,807⟩,⟨⟨⟨[nat_lit 114,nat_lit 101,nat_lit 115,nat_lit 117,nat_lit 108,nat_lit 116,nat_lit 97,nat_lit 110,nat_lit 116]⟩⟩,145,815,814⟩,⟨⟨⟨[nat_lit 114,nat_lit 111,nat_lit 111,nat_lit 116,nat_lit 95,nat_lit 98,nat_lit 111,nat_lit 117,nat_lit 110,nat_lit 100]⟩⟩,147,820,819⟩,⟨⟨⟨[nat_lit 102,nat_lit 105,nat_lit 114,nat_lit 115,nat_lit 116,nat_lit 95,nat_lit 100,nat_lit 105,nat_lit 102,nat_lit 102,nat_lit 101,nat_lit 114,nat_lit 101,nat_lit 110,nat_lit 99,nat_lit 101,nat_lit 115]⟩⟩,149,825,824⟩,⟨⟨⟨[nat_lit 122,nat_lit 101,nat_lit 114,nat_lit 111,nat_lit 115,nat_lit 95,nat_lit 111,nat_lit 110]⟩⟩,150,832,831⟩,⟨⟨⟨[nat_lit 100,nat_lit 105,nat_lit 115,nat_lit 112,nat_lit 101,nat_lit 114,nat_lit 115,nat_lit 105,nat_lit 111,nat_lit 110,nat_lit 115]⟩⟩,151,837,836⟩,⟨⟨⟨[nat_lit 115,nat_lit 104,nat_lit 97,nat_lit 112,nat_lit 101]⟩⟩,153,844,843⟩,⟨⟨⟨[nat_lit 110,nat_lit 101,nat_lit 101,nat_lit 100,nat_lit 95,nat_lit 115,nat_lit 104,nat_lit 97,nat_lit 112,nat_lit 101]⟩⟩,154,851,850⟩,⟨⟨⟨[nat_lit 99,nat_lit 111,nat_lit 112,nat_lit 105,nat_lit 101,nat_lit 100]⟩⟩,155,856,855⟩,⟨⟨⟨[nat_lit 115,nat_lit 119,nat_lit 97,nat_lit 112,nat_lit 95,nat_lit 114,nat_lit 111,nat_lit 119,nat_lit 115]⟩⟩,156,863,862⟩,⟨⟨⟨[nat_lit 116,nat_lit 97,nat_lit 107,nat_lit 101,nat_lit 95,nat_lit 111,nat_lit 102,nat_lit 102]⟩⟩,157,868,867⟩,⟨⟨⟨[nat_lit 101,nat_lit 99,nat_lit 104,nat_lit 101,nat_lit 108,nat_lit 111,nat_lit 110]⟩⟩,158,873,872⟩,⟨⟨⟨[nat_lit 110,nat_lit 117,nat_lit 108,nat_lit 108,nat_lit 95,nat_lit 98,nat_lit 97,nat_lit 115,nat_lit 101]⟩⟩,160,880,879⟩,⟨⟨⟨[nat_lit 115,nat_lit 111,nat_lit 108,nat_lit 118,nat_lit 101,nat_lit 95,nat_lit 115,nat_lit 121,nat_lit 115,nat_lit 116,nat_lit 101,nat_lit 109]⟩⟩,161,885,884⟩,⟨⟨⟨[nat_lit 109,nat_lit 111,nat_lit 118,nat_lit 101,nat_lit 100]⟩⟩,163,892,891⟩,⟨⟨⟨[nat_lit 112,nat_lit 97,nat_lit 114,nat_lit 116,nat_lit 101,nat_lit 100]⟩⟩,164,899,898⟩,⟨⟨⟨[nat_lit 99,nat_lit 111,nat_lit 101,nat_lit 102,nat_lit 102,nat_lit 105,nat_lit 99,nat_lit 105,nat_lit 101,nat_lit 110,nat_lit 116,nat_lit 95,nat_lit 97,nat_lit 116]⟩⟩,165,906,905⟩,⟨⟨⟨[nat_lit 109,nat_lit 111,nat_lit 115,nat_lit 116,nat_lit 95,nat_lit 100,nat_lit 101,nat_lit 103,nat_lit 114,nat_lit 101,nat_lit 101]⟩⟩,166,913,912⟩,⟨⟨⟨[nat_lit 100,nat_lit 105,nat_lit 102,nat_lit 102,nat_lit 101,nat_lit 114,nat_lit 101,nat_lit 110,nat_lit 99,nat_lit 101,nat_lit 95,nat_lit 111,nat_lit 102]⟩⟩,167,920,919⟩,⟨⟨⟨[nat_lit 107,nat_lit 101,nat_lit 121,nat_lit 95,nat_lit 115,nat_lit 111,nat_lit 108,nat_lit 117,nat_lit 116,nat_lit 105,nat_lit 111,nat_lit 110]⟩⟩,168,925,924⟩,⟨⟨⟨[nat_lit 116,nat_lit 114,nat_lit 105,nat_lit 109,nat_lit 109,nat_lit 101,nat_lit 100]⟩⟩,169,932,931⟩,⟨⟨⟨[nat_lit 103,nat_lit 111,nat_lit 115,nat_lit 112,nat_lit 101,nat_lit 114]⟩⟩,170,939,938⟩,⟨⟨⟨[nat_lit 112,nat_lit 111,nat_lit 119,nat_lit 101,nat_lit 114,nat_lit 95,nat_lit 105,nat_lit 110]⟩⟩,172,946,945⟩,⟨⟨⟨[nat_lit 99,nat_lit 111,nat_lit 108,nat_lit 108,nat_lit 101,nat_lit 99,nat_lit 116]⟩⟩,173,951,950⟩,⟨⟨⟨[nat_lit 108,nat_lit 105,nat_lit 110,nat_lit 101,nat_lit 97,nat_lit 114,nat_lit 95,nat_lit 112,nat_lit 97,nat_lit 114,nat_lit 116,nat_lit 115]⟩⟩,175,958,957⟩,⟨⟨⟨[nat_lit 114,nat_lit 97,nat_lit 116,nat_lit 105,nat_lit 111,nat_lit 110,nat_lit 97,nat_lit 108,nat_lit 95,nat_lit 114,nat_lit 97,nat_lit 116,nat_lit 105,nat_lit 111]⟩⟩,176,965,964⟩,⟨⟨⟨[nat_lit 112,nat_lit 111,nat_lit 119,nat_lit 101,nat_lit 114,nat_lit 95,nat_lit 114,nat_lit 97,nat_lit 116,nat_lit 105,nat_lit 111]⟩⟩,177,972,971⟩,⟨⟨⟨[nat_lit 114,nat_lit 97,nat_lit 116,nat_lit 105,nat_lit 111,nat_lit 95,nat_lit 111,nat_lit 102]⟩⟩,179,986,985⟩,⟨⟨⟨[nat_lit 112,nat_lit 111,nat_lit 108,nat_lit 121,nat_lit 110,nat_lit 111,nat_lit 109,nat_lit 105,nat_lit 97,nat_lit 108,nat_lit 95,nat_lit 102,nat_lit 111,nat_lit 114,nat_lit 109]⟩⟩,180,991,990⟩,⟨⟨⟨[nat_lit 115,nat_lit 117,nat_lit 109,nat_lit 109,nat_lit 101,nat_lit 100,nat_lit 95,nat_lit 102,nat_lit 111,nat_lit 114,nat_lit 109]⟩⟩,181,998,997⟩,⟨⟨⟨[nat_lit 105,nat_lit 110,nat_lit 100,nat_lit 101,nat_lit 102,nat_lit 105,nat_lit 110,nat_lit 105,nat_lit 116,nat_lit 101,nat_lit 95,nat_lit 115,nat_lit 117,nat_lit 109]⟩⟩,182,1003,1002⟩,⟨⟨⟨[nat_lit 95,nat_lit 108,nat_lit 97,nat_lit 119,nat_lit 95,nat_lit 118,nat_lit 97,nat_lit 108,nat_lit 117,nat_lit 101]⟩⟩,186,1018,1017⟩,⟨⟨⟨[nat_lit 95,nat_lit 108,nat_lit 97,nat_lit 119,nat_lit 95,nat_lit 116,nat_lit 97,nat_lit 107,nat_lit 101]⟩⟩,185,1011,1010⟩,⟨⟨⟨[nat_lit 108,nat_lit 97,nat_lit 119]⟩⟩,187,1023,1022⟩]
noncomputable def entOf(o:Option Obj):Array DictEntry:=match o with | some ⟨_,_,.dict es _,_⟩=>es | _=>#[]
noncomputable def epOf(o:Option Obj):Nat:=match o with | some ⟨_,_,.dict _ n,_⟩=>n | _=>0
noncomputable def pmOf(o:Option Obj):Value:=match o with | some ⟨_,_,.func fd,_⟩=>fd.pyModule | _=>.none
noncomputable def docOf'(o:Option Obj):Value:=match o with | some ⟨_,_,.func fd,_⟩=>fd.doc | _=>.none
noncomputable def gE(P:Params):Array DictEntry:=entOf ((T7 P).get 3)
noncomputable def fObj(P:Params)(t:Fa):Obj:={ cls:=.type "function",data:=.func (Calls.docDef t.f (fP t.k) (fB t.k) (fS t.k) (pmOf ((T7 P).get t.a)) (.ref t.c) (docOf' ((T7 P).get t.a))) }
noncomputable def cNm(P:Params)(c:Nat):Option Str:=match (T7 P).get c with
 | some ⟨_,_,Data.fields vs,_⟩=>(match (vs[1]?:Option Value) with | some (Value.str q _)=>some q | _=>none)
 | _=>none
theorem tabG(P:Params):(T7 P).get 3=some (dct (gE P) (epOf ((T7 P).get 3))):=by kernel_rfl
theorem tabN(P:Params):faT.map (fun t=>nsFind (gE P) t.f)=faT.map fun t=>some (.ref t.a):=by kernel_rfl
theorem tabO(P:Params):faT.map (fun t=>(T7 P).get t.a)=faT.map fun t=>some (fObj P t):=by kernel_rfl
theorem tabC(P:Params):faT.map (fun t=>cNm P t.c)=faT.map fun t=>some t.f:=by kernel_rfl
theorem tabB:(faT.all fun t=>Nat.blt t.a 1024&&Nat.blt t.c 1024)=true:=by kernel_rfl
theorem tabK:faT.map (fun t=>(t.f,t.k))=(fnsT.zip kT)++[(fN 185,185),(fN 187,187)]:=by kernel_rfl
noncomputable def isTy(v:Value)(t:String):Bool:=match v with
 | .type s=>s==t
 | _=>false
noncomputable def intB(v:Value)(j:Int):Bool:=match v with
 | .int i _=>decide (i=j)
 | _=>false
noncomputable def strB(v:Value)(j:Str):Bool:=match v with
 | .str i _=>i==j
 | _=>false
noncomputable def refB(v:Value)(f:Addr→Bool):Bool:=match v with
 | .ref a=>f a
 | _=>false
noncomputable def seqB(o:Option Obj)(T:String)(f:List Value→Bool):Bool:=match o with
 | some ⟨c,none,.seq vs _,sl⟩=>sl.size==0&&isTy c T&&f vs.toList
 | _=>false
noncomputable def all2(f:Value→V→Bool):List Value→List V→Bool
 | [],ds=>ds.isEmpty
 | v::vs,ds=>match ds with
  | []=>false
  | d::ds=>f v d&&all2 f vs ds
noncomputable def rdC(g:Nat→Option Obj):Nat→Value→V→Bool
 | 0,_,_=>false
 | n + 1,v,d=>match d with
  | .none=>v == .none
  | .int j=>intB v j
  | .str y=>strB v y
  | .tuple ds=>refB v fun a=>Nat.blt a 1024&&seqB (g a) "tuple" fun vs=>all2 (rdC g n) vs ds
  | .list ds=>refB v fun a=>Nat.blt a 1024&&seqB (g a) "list" fun vs=>all2 (rdC g n) vs ds
  | _=>false
end
section
variable{P:Prop}
theorem isTy_eq{v:Value}{t:String}:isTy v t=true→(v=.type t→P)→P:=by
 apply @Value.casesOn (fun v=>isTy v t=true→(v=.type t→P)→P) v
 case type=>intro s h k;exact k (congrArg _ (eq_of_beq h))
 all_goals (intros;rename_i h k;exact noB h)
theorem intB_ok{v:Value}{j:Int}:intB v j=true→(∀ t,v=.int j t→P)→P:=by
 apply @Value.casesOn (fun v=>intB v j=true→(∀ t,v=.int j t→P)→P) v
 case int=>intro i t h k;exact k t (by rw[of_decide_eq_true h])
 all_goals (intros;rename_i h k;exact noB h)
theorem strB_ok{v:Value}{j:Str}:strB v j=true→(∀ t,v=.str j t→P)→P:=by
 apply @Value.casesOn (fun v=>strB v j=true→(∀ t,v=.str j t→P)→P) v
 case str=>intro i t h k;exact k t (by rw[eq_of_beq h])
 all_goals (intros;rename_i h k;exact noB h)
theorem refB_ok{v:Value}{f:Addr→Bool}:refB v f=true→(∀ a,v=.ref a→f a=true→P)→P:=by
 apply @Value.casesOn (fun v=>refB v f=true→(∀ a,v=.ref a→f a=true→P)→P) v
 case ref=>intro a h k;exact k a rfl h
 all_goals (intros;rename_i h k;exact noB h)
theorem seqB_ok{o:Option Obj}{T:String}{f:List Value→Bool}(h:seqB o T f=true)(k:∀ vs n,o=some { cls:=.type T,data:=.seq vs.toArray n }→f vs=true→P):P:=by
 cases o with
 | none=>exact noB h
 | some o=>
  obtain⟨c,dd,dt,sl⟩:=o
  cases dd with
  | some _=>exact noB h
  | none=>
   revert h k
   apply @Data.casesOn (fun dt=>seqB (some ⟨c,none,dt,sl⟩) T f=true→(∀ vs n,some (⟨c,none,dt,sl⟩:Obj)=some { cls:=.type T,data:=.seq vs.toArray n }→f vs=true→P)→P) dt
   case seq=>
    intro vs n h k
    have h:=two_t h
    have h':=two_t h.1
    obtain⟨vs⟩:=vs
    refine isTy_eq h'.2 fun e=>k vs n ?_ h.2
    rw[e,Array.eq_empty_of_size_eq_zero (eq_of_beq h'.1)]
   all_goals (intros;rename_i h k;exact noB h)
end
theorem all2_rd{w:Pk}{h:Heap}{f:Value→V→Bool}(H:∀ v d,f v d=true→∃ as,Rd w h v d as){vs:List Value}:∀ {ds:List V},all2 f vs ds=true→∃ as,RdL w h vs ds as:=by
 induction vs with
 | nil=>
  intro ds q
  cases ds with
  | nil=>exact⟨_,.nil⟩
  | cons=>cases q
 | cons v vs ih=>
  intro ds q
  cases ds with
  | nil=>cases q
  | cons d ds=>
   have q:=two_t q
   obtain⟨as,r⟩:=H v d q.1
   obtain⟨bs,r2⟩:=ih q.2
   exact⟨_,.cons r r2⟩
theorem rdC_ok{w:Pk}{h:Heap}{g:Nat→Option Obj}(hg:∀ a o,a < 1024→g a=some o→alive o=some o→h.get? a=some o)(n:Nat):∀ (v:Value) (d:V),rdC g n v d=true→∃ as,Rd w h v d as:=by
 induction n with
 | zero=>intro v d q;cases q
 | succ n ih=>
  intro v d q
  cases d with
  | none=>obtain rfl:=eq_of_beq q;exact⟨_,.none⟩
  | int j=>exact intB_ok q fun t e=>by subst e;exact⟨_,.int j t⟩
  | str j=>exact strB_ok q fun t e=>by subst e;exact⟨_,.str j t⟩
  | tuple ds=>
   refine refB_ok q fun a e q=>seqB_ok (two_t q).2 fun vs k eo q'=>?_
   obtain⟨as,r⟩:=all2_rd ih q'
   subst e
   exact⟨_,.tuple (hg a _ (Nat.blt_eq.mp (two_t q).1) eo rfl) r⟩
  | list ds=>
   refine refB_ok q fun a e q=>seqB_ok (two_t q).2 fun vs k eo q'=>?_
   obtain⟨as,r⟩:=all2_rd ih q'
   subst e
   exact⟨_,.list (hg a _ (Nat.blt_eq.mp (two_t q).1) eo rfl) r⟩
  | _=>cases q
noncomputable section
noncomputable def s_RANKS:Str:=⟨⟨[nat_lit 82,nat_lit 65,nat_lit 78,nat_lit 75,nat_lit 83]⟩⟩
noncomputable def litsU:List (Str × V):=litsT.filter fun p=>!(p.1==s_RANKS)
noncomputable def rkA(P:Params):Nat:=match nsFind (gE P) s_RANKS with | some (.ref a)=>a | _=>0
noncomputable def rkE(P:Params):List DictEntry:=(entOf ((T7 P).get (rkA P))).toList
noncomputable def rkK:List Str:=[⟨⟨[nat_lit 115,nat_lit 121,nat_lit 109]⟩⟩,⟨⟨[nat_lit 99,nat_lit 97,nat_lit 108,nat_lit 108]⟩⟩,⟨⟨[nat_lit 115,nat_lit 117,nat_lit 109]⟩⟩,⟨⟨[nat_lit 112,nat_lit 114,nat_lit 111,nat_lit 100]⟩⟩,⟨⟨[nat_lit 110,nat_lit 117,nat_lit 109]⟩⟩,⟨⟨[nat_lit 112,nat_lit 111,nat_lit 119]⟩⟩,⟨⟨[nat_lit 101,nat_lit 113]⟩⟩,⟨⟨[nat_lit 108,nat_lit 105,nat_lit 115,nat_lit 116]⟩⟩]
noncomputable def keyOf(e:DictEntry):Option Str:=match e.key with | .str x _=>some x | _=>none
end
theorem litOk(P:Params):(litsU.all fun t=>match nsFind (gE P) t.1 with | some v=>rdC (T7 P).get 10 v t.2 | none=>false)=true:=by kernel_rfl
theorem rk1(P:Params):nsFind (gE P) s_RANKS=some (.ref (rkA P)):=by kernel_rfl
theorem rk2(P:Params):(T7 P).get (rkA P)=some (dct (rkE P).toArray (epOf ((T7 P).get (rkA P)))):=by kernel_rfl
theorem rk3(P:Params):(rkE P).map keyOf=rkK.map some:=by kernel_rfl
theorem rk4(w:World):(rkE w.params).map (·.hash)=rkK.map (hashStr w):=by kernel_rfl
theorem rk5(P:Params):all2 (rdC (T7 P).get 5) ((rkE P).map (·.val)) [.int (.ofNat .zero),.int (.ofNat (.succ (nat_lit 0))),.int (.ofNat (.succ (nat_lit 1))),.int (.ofNat (.succ (nat_lit 2))),.int (.ofNat (.succ (nat_lit 3))),.int (.ofNat (.succ (nat_lit 4))),.int (.ofNat (.succ (nat_lit 5))),.int (.ofNat (.succ (nat_lit 6)))]=true:=by kernel_rfl
theorem rk6:litsT.lookup s_RANKS=some (.dict ((rkK.map .str).zip [.int (.ofNat .zero),.int (.ofNat (.succ (nat_lit 0))),.int (.ofNat (.succ (nat_lit 1))),.int (.ofNat (.succ (nat_lit 2))),.int (.ofNat (.succ (nat_lit 3))),.int (.ofNat (.succ (nat_lit 4))),.int (.ofNat (.succ (nat_lit 5))),.int (.ofNat (.succ (nat_lit 6)))])):=by kernel_rfl
theorem rk7(P:Params):Nat.blt (rkA P) 1024=true:=by kernel_rfl
theorem none10(P:Params):([s_len,s_abs,s_max,s_min,s_list,s_tuple,s_sorted,s_range,s_enumerate,s_reversed].map (nsFind (gE P)))=[none,none,none,none,none,none,none,none,none,none]:=by kernel_rfl
theorem boot10:([s_len,s_abs,s_max,s_min,s_list,s_tuple,s_sorted,s_range,s_enumerate,s_reversed].map bootBuiltins)=[some (.builtin "len"),some (.builtin "abs"),some (.builtin "max"),some (.builtin "min"),some (.type "list"),some (.type "tuple"),some (.builtin "sorted"),some (.type "range"),some (.type "enumerate"),some (.type "reversed")]:=by kernel_rfl
theorem nm10:([s_len,s_abs,s_max,s_min,s_list,s_tuple,s_sorted,s_range,s_enumerate,s_reversed].all fun x=>!(x==("__name__":Str)))=true:=by kernel_rfl
noncomputable def isMod(P:Params)(e:DictEntry):Bool:=match e.val with
 | .ref m=>Nat.blt m 1024&&(match (T7 P).get m with | some ⟨c,_,.plain,_⟩=>isTy c "module" | _=>false)
 | _=>false
theorem sm1(P:Params):(T7 P).get 1=some (dct (entOf ((T7 P).get 1)).toList.toArray (epOf ((T7 P).get 1))):=by kernel_rfl
theorem sm2(P:Params):(entOf ((T7 P).get 1)).toList.any (isMod P)=true:=by kernel_rfl
end
section
set_option tactic.hygienic true
theorem claimRoom:OkA callerA 320:=⟨rfl,by decide,by decide⟩
section
variable{w:World}{h:Heap}{mg mb:Str→Option Value}(k1:Kp (H1 w.params) h)(g:h.Ns mainGlobals mg)
theorem objOf(P:Params){a:Nat}{ob:Obj}(ha:a < 1024)(e:(T7 P).get a=some ob)(al:alive ob=some ob):(H1 P).get? a=some ob:=(abs_get ha e).trans al
include k1 g
theorem mgOf(x:Str):mg x=nsFind (gE w.params) x:=by
 obtain⟨o,es,ep,ho,hd,_,hf⟩:=g
 have:=k1 _ _ (objOf w.params (a:=3) (by decide) (tabG w.params) rfl)
 have ho:h.get? 3=some o:=ho
 rw[ho]at this
 cases this
 cases hd
 exact(hf x).symm
theorem fa_at{i:Nat}{t:Fa}(ht:faT[i]?=some t):FnAt ⟨w,mg,h,mb⟩ t.f (fP t.k) (fB t.k) (fS t.k)∧mg t.f=some (.ref t.a):=by
 have eN:nsFind (gE w.params) t.f=some (.ref t.a):=by
  have:=congrArg (fun l:List (Option Value)=>l[i]?) (tabN w.params)
  simp only[List.getElem?_map,ht,Option.map_some]at this
  exact Option.some.inj this
 have eO:(T7 w.params).get t.a=some (fObj w.params t):=by
  have:=congrArg (fun l:List (Option Obj)=>l[i]?) (tabO w.params)
  simp only[List.getElem?_map,ht,Option.map_some]at this
  exact Option.some.inj this
 have eC:cNm w.params t.c=some t.f:=by
  have:=congrArg (fun l:List (Option Str)=>l[i]?) (tabC w.params)
  simp only[List.getElem?_map,ht,Option.map_some]at this
  exact Option.some.inj this
 have eB:=List.all_eq_true.mp tabB t (List.mem_of_getElem? ht)
 simp only[Bool.and_eq_true,Nat.blt_eq]at eB
 have hm:mg t.f=some (.ref t.a):=(mgOf k1 g t.f).trans eN
 refine⟨⟨t.a,fObj w.params t,_,_,_,hm,k1 _ _ (objOf w.params eB.1 eO rfl),rfl,?_⟩,hm⟩
 unfold cNm at eC
 split at eC
 ·rename_i c d vs sl e
  split at eC
  ·rename_i q tk eq
   cases eC
   exact⟨t.c,_,vs,tk,rfl,k1 _ _ (objOf w.params eB.2 e rfl),rfl,eq⟩
  ·cases eC
 ·cases eC
theorem fa_nth{i k:Nat}{f:Str}(hk:kT[i]?=some k)(hf:fnsT[i]?=some f):FnAt ⟨w,mg,h,mb⟩ f (fP k) (fB k) (fS k)∧∃ a,mg f=some (.ref a):=by
 have e:(fnsT.zip kT)[i]?=some (f,k):=(List.getElem?_zip_eq_some (z:=(f,k))).mpr ⟨hf,hk⟩
 have:=congrArg (fun l:List (Str × Nat)=>l[i]?) tabK
 have hlt:i < (fnsT.zip kT).length:=by
  rcases Nat.lt_or_ge i (fnsT.zip kT).length with q | q
  ·exact q
  ·rw[List.getElem?_eq_none q]at e;cases e
 simp only[List.getElem?_append_left hlt,e,List.getElem?_map]at this
 rw[Option.map_eq_some_iff]at this
 obtain⟨t,ht,q⟩:=this
 obtain⟨a,b⟩:=fa_at k1 g ht
 cases q
 exact⟨a,_,b⟩
theorem last_two{j:Nat}(hj:j=126∨j=127):∃ t,faT[j]?=some t:=by
 rcases hj with rfl | rfl <;> exact⟨_,rfl⟩
theorem law_takes:(FnAt ⟨w,mg,h,mb⟩ (fN 185) (fP 185) (fB 185) (fS 185)∧∃ a,mg (fN 185)=some (.ref a))∧FnAt ⟨w,mg,h,mb⟩ (fN 187) (fP 187) (fB 187) (fS 187)∧∃ a,mg (fN 187)=some (.ref a):=by
 have key:∀ (j:Nat) (f:Str) (k:Nat),((fnsT.zip kT)++[(fN 185,185),(fN 187,187)])[j]?=some (f,k)→FnAt ⟨w,mg,h,mb⟩ f (fP k) (fB k) (fS k)∧∃ a,mg f=some (.ref a):=fun j f k e=>by
  have:=congrArg (fun l:List (Str × Nat)=>l[j]?) tabK
  simp only[e,List.getElem?_map]at this
  rw[Option.map_eq_some_iff]at this
  obtain⟨t,ht,q⟩:=this
  obtain⟨a,b⟩:=fa_at k1 g ht
  cases q
  exact⟨a,_,b⟩
 have hl:(fnsT.zip kT).length=126:=by kernel_rfl
 refine⟨key 126 _ _ ?_,key 127 _ _ ?_⟩
 ·rw[List.getElem?_append_right (by omega),hl];rfl
 ·rw[List.getElem?_append_right (by omega),hl];rfl
theorem bs_of(hl:h.NoLimit):Bs ⟨w,mg,h,mb⟩:=⟨hl,fun i k f hk hf=>(fa_nth k1 g hk hf).1⟩
theorem rd_of{n:Nat}{v:Value}{d:V}(q:rdC (T7 w.params).get n v d=true):∃ as,Rd ⟨w,mg,h,mb⟩ h v d as:=
 rdC_ok (fun a o ha e al=>k1 _ _ (objOf w.params ha e al)) n v d q
theorem keysS:∀ (es:List DictEntry) (xs:List Str),es.map keyOf=xs.map some→es.map (·.hash)=xs.map (hashStr w)→All2 (fun (e:DictEntry) (x:Str)=>e.hash=hashStr w x∧∃ t,e.key=.str x t) es xs
 | [],[],_,_=>.nil
 | e::es,x::xs,a,b=>by
  simp only[List.map_cons,List.cons.injEq]at a b
  refine .cons ⟨b.1,?_⟩ (keysS es xs a.2 b.2)
  have a:=a.1
  unfold keyOf at a
  split at a
  ·cases a;exact⟨_,by assumption⟩
  ·cases a
 | [],_::_,a,_=>by simp at a
 | _::_,[],a,_=>by simp at a
theorem lit_of{x:Str}{d:V}(hx:litsT.lookup x=some d):∃ v,mg x=some v∧Rb ⟨w,mg,h,mb⟩ (fun _=>False) false h v d:=by
 by_cases q:x=s_RANKS
 ·subst q
  rw[rk6]at hx
  cases hx
  refine⟨.ref (rkA w.params),(mgOf k1 g _).trans (rk1 w.params),?_⟩
  obtain⟨as,r⟩:=all2_rd (fun v d=>rd_of k1 g) (rk5 w.params)
  have ho:=k1 _ _ (objOf w.params (by simpa [Nat.blt_eq] using rk7 w.params) (rk2 w.params) rfl)
  have nd:rkK.Nodup:=by decide +kernel
  exact⟨_,.dict ho (.kS (keysS k1 g _ _ (rk3 w.params) (rk4 w)) nd) (by rw[List.length_map];rfl) r,fun _ _ n=>n.elim⟩
 ·have hm:(x,d)∈litsU:=by
   unfold litsU
   rw[List.mem_filter]
   exact⟨PySem.mem_of_lookup hx,by simpa using q⟩
  have:=List.all_eq_true.mp (litOk w.params) _ hm
  simp only at this
  split at this
  ·rename_i v e
   obtain⟨as,r⟩:=rd_of k1 g this
   exact⟨v,(mgOf k1 g _).trans e,as,r,fun _ _ n=>n.elim⟩
  ·cases this
theorem ten(hb:∀ x:Str,x ≠ "__name__"→mb x=bootBuiltins x)(j:Nat)(x:Str)(v:Option Value)(hx:[s_len,s_abs,s_max,s_min,s_list,s_tuple,s_sorted,s_range,s_enumerate,s_reversed][j]?=some x)
  (hv:[some (Value.builtin "len"),some (.builtin "abs"),some (.builtin "max"),some (.builtin "min"),some (.type "list"),some (.type "tuple"),some (.builtin "sorted"),some (.type "range"),some (.type "enumerate"),some (.type "reversed")][j]?=some v):mg x=none∧mb x=v:=by
 constructor
 ·rw[mgOf k1 g]
  have:=congrArg (fun l:List (Option Value)=>l[j]?) (none10 w.params)
  simp only[List.getElem?_map,hx,Option.map_some]at this
  have hj:j < 10:=(List.getElem?_eq_some_iff.mp hx).1
  have e:([none,none,none,none,none,none,none,none,none,none]:List (Option Value))[j]?=some none:=show(List.replicate 10 (none:Option Value))[j]?=some none from List.getElem?_replicate_of_lt hj
  rw[e]at this
  exact Option.some.inj this
 ·have hn:=List.all_eq_true.mp nm10 x (List.mem_of_getElem? hx)
  rw[hb x (by simpa using hn)]
  have:=congrArg (fun l:List (Option Value)=>l[j]?) boot10
  simp only[List.getElem?_map,hx,Option.map_some,hv]at this
  exact Option.some.inj this
omit k1 g in
theorem if_bi{p:Bool}{o:Option Bi}{b b':Bi}{P:Prop}(h:(if p then some b' else o)=some b)(k1:p=true→b'=b→P)(k2:o=some b→P):P:=by
 cases p with
 | true=>exact k1 rfl (Option.some.inj h)
 | false=>exact k2 h
omit k1 g in
theorem one_bi{x y:Str}{n m:Nat}{b b':Bi}(q:(x==y&&n==m)=true)(e:b'=b)(t:mg y=none∧mb y=some (biVal b')):mg x=none∧mb x=some (biVal b):=by
 obtain rfl:=eq_of_beq (two_t q).1
 obtain rfl:=e
 exact t
theorem bi_of(hb:∀ x:Str,x ≠ "__name__"→mb x=bootBuiltins x){x:Str}{n:Nat}{b:Bi}(h:biOf x n=some b):mg x=none∧mb x=some (biVal b):=by
 have T:=ten k1 g hb
 exact if_bi h (fun q e=>one_bi q e (T 0 _ _ rfl rfl)) fun h=>if_bi h (fun q e=>one_bi q e (T 1 _ _ rfl rfl)) fun h=>if_bi h (fun q e=>one_bi q e (T 2 _ _ rfl rfl)) fun h=>if_bi h (fun q e=>one_bi q e (T 2 _ _ rfl rfl)) fun h=>if_bi h (fun q e=>one_bi q e (T 3 _ _ rfl rfl)) fun h=>
  if_bi h (fun q e=>one_bi q e (T 4 _ _ rfl rfl)) fun h=>if_bi h (fun q e=>one_bi q e (T 5 _ _ rfl rfl)) fun h=>if_bi h (fun q e=>one_bi q e (T 6 _ _ rfl rfl)) fun h=>noP h
theorem gi_of(hb:∀ x:Str,x ≠ "__name__"→mb x=bootBuiltins x)(b:h.Ns builtinsNs mb):GI ⟨w,mg,h,mb⟩ fnsT litsT (fun _=>False) h where
 base:=Kp.refl _
 g:=g
 b:=b
 lit:=fun x d e=>lit_of k1 g e
 fn:=fun f i e=>by
  have hf:fnsT[i]?=some f:=by have:=idxS_at f _ _ _ e;rwa [Nat.sub_zero]at this
  have hlt:i < 126:=by
   rcases Nat.lt_or_ge i 126 with q | q
   ·exact q
   ·rw[List.getElem?_eq_none q]at hf;cases hf
  have hk:∃ k,kT[i]?=some k:=⟨kT[i]'(by exact hlt),List.getElem?_eq_getElem _⟩
  obtain⟨k,hk⟩:=hk
  obtain⟨⟨a,o,pm,cd,doc,e1,e2,e3,_⟩,_⟩:=fa_nth k1 g hk hf
  exact⟨a,o,_,e1,e2,e3⟩
 bi:=fun x n bb _ e=>bi_of k1 g hb e
 rg:=ten k1 g hb 7 _ _ rfl rfl
 en:=ten k1 g hb 8 _ _ rfl rfl
 rv:=ten k1 g hb 9 _ _ rfl rfl
 sm:=by
  obtain⟨e,me,q⟩:=List.any_eq_true.mp (sm2 w.params)
  have ho:=k1 _ _ (objOf w.params (a:=1) (by decide) (sm1 w.params) rfl)
  unfold isMod at q
  split at q
  ·rename_i m em
   simp only[Bool.and_eq_true,Nat.blt_eq]at q
   obtain⟨q1,q2⟩:=q
   split at q2
   ·rename_i c d sl eo
    have:=isTy_eq (P:=_=_) q2 id
    subst this
    exact⟨_,_,e,m,_,ho,me,em,k1 _ _ (objOf w.params q1 eo rfl),rfl⟩
   ·cases q2
  ·cases q
end
theorem ints_of{w:Pk}{h:Heap}{P:Params}{vs:List Value}:∀ {xs:List Int},WellAll P h vs (xs.map .int)→RbL w (fun _=>False) false h vs (xs.map .int):=by
 induction vs with
 | nil=>intro xs q;cases xs with | nil=>exact .nil | cons=>cases q
 | cons v vs ih=>
  intro xs q
  cases xs with
  | nil=>cases q
  | cons x xs=>
   cases q with
   | cons a b=>cases a;exact .cons (rb_int _ _ _ _) (ih b)
theorem has_int{R:WRecords}{x:WData}:WShape.has R x .int=true→∃ i,x=.int i:=by
 refine fun h=>Classical.byContradiction fun g=>?_
 revert h g
 apply @WData.casesOn (fun x=>WShape.has R x .int=true→(¬∃ i,x=.int i)→False) x
 case int=>intro i _ g;exact g ⟨i,rfl⟩
 all_goals (intros;rename_i h g;exact noB h)
theorem items_int{R:WRecords}{xs:List WData}(h:WShape.hasItems R xs .int=true):∃ is:List Int,xs=is.map .int:=by
 induction xs with
 | nil=>exact⟨[],rfl⟩
 | cons x xs ih=>
  have h:(WShape.has R x .int&&WShape.hasItems R xs .int)=true:=h
  obtain⟨is,e⟩:=ih (two_t h).2
  obtain⟨i,e'⟩:=has_int (two_t h).1
  exact⟨i::is,by rw[e,e'];rfl⟩
theorem pre_args{args:List WData}(h:row0.claim.pre args=true):∃ is:List Int,args=[.list (is.map .int)]∧is.length≤63:=by
 have h:(WShape.hasAll row0.records args row0.args&&row0.pre.holds row0.records { args:=args })=true:=h
 rw[Bool.and_eq_true]at h
 obtain⟨h1,h2⟩:=h
 cases args with
 | nil=>cases h1
 | cons x xs=>
  have h1:(WShape.has row0.records x (.list .int)&&WShape.hasAll row0.records xs [])=true:=h1
  rw[Bool.and_eq_true]at h1
  cases xs with
  | cons y ys=>cases h1.2
  | nil=>
   cases x with
   | list l=>
    have q:(WShape.hasItems row0.records l .int || false)=true:=h1.1
    rw[Bool.or_false]at q
    obtain⟨is,rfl⟩:=items_int (R:=row0.records) q
    refine⟨is,rfl,?_⟩
    have h2:WTm.holds row0.records (.and (.not (.lt (.lit (.int 63)) (.len (.arg 0)))) (.lit (.bool true))) { args:=[.list (is.map .int)] }=true:=h2
    simp [WTm.holds,WTm.value,less?,Num.less?]at h2
    by_cases q:is.length≤63
    ·exact q
    ·exfalso
     rw[show decide ((63:Int) < (is.length:Int))=true by simp;omega]at h2
     cases h2
   | _=>cases h1.1
theorem nmL:fN 187=dLaw.name:=by kernel_rfl
theorem walk:WalkX qv loose (fun _ _=>True) (fun s=>s.heap) (fun w=>H1 w.params) row0 dLaw [] fun f vs=>PySem.call f vs:=by
 intro w s₀ s₁ mg mb G hy a o pm cd doc dV kV ho hd hcd hdf hm hg args vals as L hpre hlay hreads hwell hsys
 have k1:Kp (H1 w.params) s₁.heap:=by
  have hy:s₀.heap=H1 w.params:=hy
  rw[← hy];exact L.keeps
 obtain⟨is,rfl,hlen⟩:=pre_args hpre
 have g:=G.T.g
 have B:=bs_of (mb:=mb) k1 g G.T.nolimit
 obtain⟨⟨fT,_⟩,fL,a',ha'⟩:=law_takes (mb:=mb) k1 g
 have gi:=gi_of k1 g G.T.builtins G.T.b
 have ea:a'=a:=by
  have hm:mg dLaw.name=some (.ref a):=hm
  rw[← nmL,ha']at hm
  cases hm;rfl
 subst ea
 cases hwell with
 | cons hv hvs=>
  cases hvs
  cases hv with
  | @list l vs _ hl hvi=>
   have rv:Rb ⟨w,mg,s₁.heap,mb⟩ (fun _=>False) false s₁.heap (.ref l) (.list (is.map .int)):=Rb.lst false (fun _ q=>q) hl (ints_of hvi)
   show wpAny (model PySem.Challenge.rw_pq0209_01.row.prog w) _ _ _ _ _
   rw[← prog_eq]
   refine anyE (law_right (A:=callerA) (w:=⟨w,mg,s₁.heap,mb⟩) (N:=fun _=>False) B fT fL claimRoom HV_ok hlen ha' gi (fun _ q=>q.elim) rv fun h' tk kp=>?_)
   exact⟨.inl ⟨.bool true,.bool true,[],rfl,fun _=>rfl,.bool true,by kernel_rfl,fun _=>⟨List.nodup_nil,fun _ q=>nomatch q⟩⟩,.of_keep kp,rfl,.of_eq hg⟩
theorem all_right:rw0.Holds:=head0 walk
end
end Mine
end
theorem PySem.Challenge.cw_pq0209_01_holds : PySem.Challenge.rw_pq0209_01.Holds :=
  Mine.all_right
