import PyProof.Rows.All
import PySem.Value
import PyProof.CompFree
import PyProof.DictIter
import PyProof.RaisesMany
import PyProof.WalksMore
import PyProof.IsiHeapPairs
import PyProof.IsiPairs
import PyProof.WalkInts
import PyProof.RulesFinally
import PyProof.RulesAssignMore
import PyProof.TupleOfSeq
import OpenK.KLine
import OpenK.KNot
import Wide.FinOn
import Wide.All
import Lean
import PySem.Challenge.RW_np0150_01
set_option Elab.async false
set_option linter.all false
set_option bootstrap.genMatcherCode false
set_option tactic.hygienic false
set_option maxRecDepth 100000
set_option maxHeartbeats 0
set_option Elab.async false
namespace Mine
open PySem PySem.Calls PyProof.Rows
open PySem.W
noncomputable def nF(st:SharedT→Thread→Option (SharedT×Thread))(ok:Thread→Bool):Nat→SharedT→Thread→Option SharedT
 | 0,_,_=>none
 | n+1,s,t=>match through t with
  | true=>some s
  | false=>match ok t with
   | false=>none
   | true=>match st s t with
    | some (s',t')=>nF st ok n s' t'
    | none=>none
theorem zM{tb:String→Option Builtin}{p:Program}{w:World}{n₀:Nat}{ann:Option Value}:∀{n:Nat} {s s':SharedT} {t:Thread},nF (stepT (denote tb) p w) (stepOk n₀ ann) n s t=some s'→topRun tb p w n₀ ann n s.abs t=some s'.abs
 | 0,_,_,_,h=>by cases h
 | n+1,s,s',t,h=>by
  unfold nF at h
  unfold topRun
  cases he:through t with
  | true=>rw [he] at h;cases h;rfl
  | false=>
   rw [he] at h
   cases hk:stepOk n₀ ann t with
   | false=>rw [hk] at h;cases h
   | true=>
    rw [hk] at h
    cases hs:stepT (denote tb) p w s t with
    | none=>rw [hs] at h;cases h
    | some r=>obtain ⟨s₂,t₂⟩:=r;rw [hs] at h;rw [stepT_spec hs];exact zM h
noncomputable def zN:Nat→List Obj→BT→BT
 | _,[],t=>t
 | i,o::r,t=>zN (i+1) r (t.ins i o)
noncomputable def T0(P:Params):BT:=zN 0 (boot_heap P).objs.toList .nil
theorem JR(P:Params):absHeap (T0 P) (boot_heap P).objs.size (boot_heap P).life=boot_heap P:=by kernel_rfl
noncomputable def S0(w:World)(os:OsState):SharedT:=⟨T0 w.params,(boot_heap w.params).objs.size,(boot_heap w.params).life,#[],boot_drawn,boot_toks,os⟩
noncomputable def jM(T:BT):List Nat→Frag
 | []=> []
 | a::r=>match T.get a with
  | some o=>match alive o with
   | some o=>(a,o)::jM T r
   | none=>jM T r
  | none=>jM T r
set_option tactic.hygienic true in
theorem JS{T:BT}{n:Nat}{life:Life}:∀{as:List Nat},as.all (Nat.blt · n)=true→(jM T as).In (absHeap T n life):=by
 intro as
 induction as with
 | nil=>intro _ a o h;cases h
 | cons b r ih=>
  intro hb a o h
  rw [List.all_cons,Bool.and_eq_true] at hb
  have lt:b<n:=Nat.le_of_ble_eq_true hb.1
  unfold jM at h
  split at h
  ·rename_i o1 h1
   split at h
   ·rename_i o2 h2
    rw [List.lookup_cons] at h
    split at h
    ·rename_i e
     cases h
     rw [beq_iff_eq.mp e,abs_get lt h1,h2]
    ·exact ih hb.2 a o h
   ·exact ih hb.2 a o h
  ·exact ih hb.2 a o h
abbrev pw:=PySem.Challenge.pw_np0150_01
abbrev nG:=PySem.Challenge.rw_np0150_01
noncomputable def q0:Program:=view pw [92]
noncomputable def rT:List Str:=pw.main.scope.names.map (·.1)
theorem JT(w:World):(fencedOpening treeTable pw w 12510).map (fun s=>(s.heap,s.gens,s.drawn,s.toks))=some (boot_heap w.params,Array.mk [],boot_drawn,boot_toks):=
 boot_open (by rfl) (by rfl) (fun s=>by rfl) w
theorem rU{a b:Bool}(x:a=true)(y:b=true):Bool.and a b=true:=by rw [x,y];rfl
theorem JV:nG.wellSaid=true:=by
 rw [PySem.W.Fast.te9446332074065402090]
 unfold PySem.W.Fast.tw9446332074065402090
 iterate 18 refine rU ?_ (by as_aux_lemma=>kernel_rfl)
 unfold PySem.W.Fast.tw17960256430627541270
 iterate 2 refine rU ?_ (by as_aux_lemma=>kernel_rfl)
 unfold PySem.W.Fast.tw2436336058641802641
 iterate 13 refine rU ?_ (by as_aux_lemma=>kernel_rfl)
 unfold PySem.W.Fast.tw12908688711261696721
 iterate 5 refine rU ?_ (by as_aux_lemma=>kernel_rfl)
 as_aux_lemma=>kernel_rfl
end Mine
set_option autoImplicit false
set_option genSizeOf false
set_option genInjectivity false
namespace Mine
open PySem (Addr)
abbrev Txt:=List Nat
noncomputable def S(x:String):Txt:=x.toList.map Char.toNat
theorem bz{P:Prop}(h:false=true):P:=absurd h Bool.false_ne_true
theorem Yr{P:Prop}(h:true=false):P:=absurd h.symm Bool.false_ne_true
theorem aG{α:Type _}{a:α}{P:Prop}(h:Option.none=Option.some a):P:=nomatch h
theorem jN{α:Type _}{a:α}{P:Prop}(h:Option.some a=Option.none):P:=nomatch h
inductive V where
 | none
 | bool (b:Bool)
 | int (i:Int)
 | str (s:Txt)
 | tup (xs:List V)
 | ref (a:Nat)
 | con (v:PySem.Value)
deriving Inhabited
inductive O where
 | list (xs:List V)
 | dict (es:List (V×V))
 | inst (c:Nat) (fs:List (String×V))
 | exc (c:Nat) (fs:List (String×V))
deriving Inhabited
abbrev MH:=Nat→Option O
noncomputable def MH.upd(H:MH)(a:Nat)(o:O):MH:=fun b=>if b=a then some o else H b
abbrev Loc:=List (String×V)
noncomputable def get:List (String×V)→String→Option V
 | [],_=> .none
 | (y,v)::r,x=>match y==x with | true=>some v | false=>get r x
noncomputable def put:List (String×V)→String→V→List (String×V)
 | [],x,v=> [(x,v)]
 | (y,u)::r,x,v=>match y==x with | true=>(y,v)::r | false=>(y,u)::put r x v
noncomputable def del(l:List (String×V))(x:String):List (String×V):=l.filter fun p=>p.1 !=x
inductive Bop where
 | add | sub | mul | fdiv | fmod | pow
deriving DecidableEq,Inhabited
inductive Cop where
 | eq | ne | lt | le | gt | ge | is | isNot | isin | notin
deriving DecidableEq,Inhabited
inductive X where
 | k (v:V)
 | loc (x:String)
 | attr (e:X) (n:String)
 | call (f:X) (args:List X)
 | meth (o:X) (n:String) (args:List X)
 | bin (op:Bop) (a b:X)
 | not (e:X)
 | neg (e:X)
 | bop (isAnd:Bool) (es:List X)
 | cmp (a:X) (op:Cop) (b:X)
 | cmp2 (a:X) (op:Cop) (b:X) (op':Cop) (c:X)
 | ite (c a b:X)
 | list (es:List X)
 | tup (es:List X)
 | dict (ks:List V) (vs:List V)
 | sub (a i:X)
 | slice (a:X) (lo hi:X)
 | comp (elt:X) (x:String) (rng:Bool) (it:X) (ifs:List X)
deriving Inhabited
inductive Tgt where
 | name (x:String)
 | attr (o:X) (n:String)
 | sub (o i:X)
 | names (xs:List String)
deriving Inhabited
inductive St where
 | expr (e:X)
 | assign (t:Tgt) (e:X)
 | augName (x:String) (op:Bop) (e:X)
 | augAttr (o:X) (n:String) (op:Bop) (e:X)
 | ret (e:X)
 | cond (c:X) (a b:List St)
 | loop (c:X) (body:List St)
 | each (t:Tgt) (rng:Bool) (it:X) (body:List St)
 | cont
 | copyAll (x a b:String)
 | raise (e:X)
 | tryExc (body:List St) (cls:Nat) (name:Option String) (h:List St)
 | tryFin (body fin:List St)
deriving Inhabited
inductive Flow where
 | next | cont | ret (v:V)
deriving Inhabited
structure Fn where
 params:List String
 dflt:List V
 body:List St
deriving Inhabited
structure Cls where
 isExc:Bool
 init:Nat
 meths:List (String×Nat)
 fields:List String
deriving Inhabited
structure Tab where
 fn:Nat→Option Fn
 cls:Nat→Option Cls
 glob:String→Option PySem.Value
 lst:Nat→Option (List Int)
abbrev Q1:=V→MH→Prop
abbrev E1:=Nat→MH→Prop
abbrev QS:=Flow→Loc→MH→Prop
abbrev ES:=Nat→Loc→MH→Prop
abbrev aO:=Option Nat→V→List V→MH→Q1→E1→Prop
noncomputable def bh:Nat:=16777216
noncomputable def vJ(T:Tab)(c:Nat)(n:String):Option Nat:=(T.cls c).bind fun k=>k.meths.lookup n
inductive BM where
 | append | lpop | extend | index | dget | dpop | join | excInit
deriving DecidableEq,Inhabited
inductive Cal where
 | fn (f:V) (first:List V)
 | bm (m:BM) (self:V)
noncomputable def dC{α:Type}(b:Bool)(x:Option α):Option α:=match b with
 | true=>x
 | false=> .none
noncomputable def vK:Txt→Option Nat
 | [c]=>some c
 | _=> .none
noncomputable def vL(n:String):Option BM:=match n=="append" with
 | true=>some .append
 | false=>match n=="pop" with
  | true=>some .lpop
  | false=>match n=="extend" with
   | true=>some .extend
   | false=>dC (n=="index") (some .index)
noncomputable def vM(n:String):Option BM:=match n=="get" with
 | true=>some .dget
 | false=>dC (n=="pop") (some .dpop)
noncomputable def cX:V→Option Nat
 | .ref a=>some a
 | _=> .none
noncomputable def cY:V→Option Int
 | .int i=>some i
 | _=> .none
noncomputable def kZ:V→Option Bool
 | .bool b=>some b
 | _=> .none
noncomputable def iR:V→Option Txt
 | .str s=>some s
 | _=> .none
noncomputable def vN:PySem.Value→Option Nat
 | .ref a=>some a
 | _=> .none
noncomputable def jk:List V→Option V
 | [x]=>some x
 | _=> .none
noncomputable def pK:List V→Option (V×V)
 | [x,y]=>some (x,y)
 | _=> .none
noncomputable def bN:Option O→Option (List V)
 | some (.list xs)=>some xs
 | _=> .none
noncomputable def lq:Option O→Option (List (V×V))
 | some (.dict es)=>some es
 | _=> .none
noncomputable def excO:Option O→Option Nat
 | some (.exc c _)=>some c
 | _=> .none
noncomputable def pL(n:Nat):Bool:=Nat.ble n 1000
noncomputable def JW(T:Tab)(n:String):PySem.Value→Option Cal
 | .ref c=>(vJ T c n).map fun f=> .fn (.con (.ref f)) []
 | .type t=>dC (t=="Exception") (dC (n=="__init__") (some (.bm .excInit (.con (.type t)))))
 | _=> .none
noncomputable def zO(T:Tab)(v:V)(n:String)(c:Nat):Option V→Option Cal
 | some f=>some (.fn f [])
 | .none=>(vJ T c n).map fun f=> .fn (.con (.ref f)) [v]
noncomputable def zP(T:Tab)(v:V)(n:String):O→Option Cal
 | .inst c fs=>zO T v n c (get fs n)
 | .list _=>(vL n).map fun m=> .bm m v
 | .dict _=>(vM n).map fun m=> .bm m v
 | .exc _ _=> .none
noncomputable def jl(T:Tab)(H:MH)(v:V)(n:String):Option Cal:=
 match v with
 | .ref a=>(H a).bind (zP T v n)
 | .str _=>dC (n=="join") (some (.bm .join v))
 | .con w=>JW T n w
 | _=> .none
noncomputable def aa{α:Type}(o:Option α)(K:α→Prop):Prop:=match o with
 | some x=>K x
 | .none=>False
theorem aa.el{α:Type}{o:Option α}{K:α→Prop}{P:Prop}(h:aa o K)(k:∀x,o=some x→K x→P):P:=
 match o,h,k with
 | some x,h,k=>k x rfl h
 | .none,h,_=>h.elim
theorem aa.mk{α:Type}{o:Option α}{K:α→Prop}{x:α}(e:o=some x)(h:K x):aa o K:=e▸h
noncomputable def br(b:Bool)(A B:Prop):Prop:=match b with
 | true=>A
 | false=>B
theorem br.el{b:Bool}{A B P:Prop}(h:br b A B)(k:b=true→A→P)(k':b=false→B→P):P:=
 match b,h,k,k' with
 | true,h,k,_=>k rfl h
 | false,h,_,k'=>k' rfl h
noncomputable def zQ(T:Tab):V→Bool
 | .con (.ref a)=>(T.fn a).isSome || (T.cls a).isSome
 | .con (.builtin _)=>true
 | .con (.type _)=>true
 | _=>false
noncomputable def isNone:V→Bool
 | .none=>true
 | _=>false
noncomputable def jm:V→Option (List V)
 | .tup xs=>some xs
 | _=> .none
noncomputable def V.sameF(a b:V):Bool:=match a with
 | .none=>isNone b
 | .bool x=>kZ b==some x
 | .int x=>cY b==some x
 | .str x=>iR b==some x
 | _=>false
noncomputable def dY{α β:Type}(f:α→β→Bool):List α→List β→Bool
 | [],ys=>ys.isEmpty
 | a::r,ys=>match ys with
  | []=>false
  | b::q=>f a b && dY f r q
noncomputable def V.same(a b:V):Bool:=V.sameF a b || (jm a).any fun xs=>(jm b).any fun ys=>dY V.sameF xs ys
noncomputable def aW(es:List (V×V))(k:V):Option V:=(es.find? fun e=>e.1.same k).map (·.2)
noncomputable def bC:List (V×V)→V→V→List (V×V)
 | [],k,v=> [(k,v)]
 | e::r,k,v=>if e.1.same k then (e.1,v)::r else e::bC r k v
@[elab_as_elim] theorem gk {P:Nat→Prop} {n k:Nat} (h:n<k+1) (h0:P 0) (hs:∀m,m<k→P (m+1)):P n:=by
 induction n using Nat.casesOn with
 | zero=>exact h0
 | succ m=>exact hs m (Nat.lt_of_succ_lt_succ h)
@[elab_as_elim] theorem jn {α:Type} {P:List α→Prop} {n:Nat} {l:List α} (h:l.length=n+1) (f:∀a r,r.length=n→P (a::r)):P l:=by
 induction l using List.casesOn with
 | nil=>exact absurd h.symm (Nat.succ_ne_zero _)
 | cons a r=>exact f a r (Nat.succ.inj h)
@[elab_as_elim] theorem zR {α:Type} {P:List α→Prop} {l:List α} (h:l.length=0) (f:P []):P l:=by
 induction l using List.casesOn with
 | nil=>exact f
 | cons a r=>exact absurd h (Nat.succ_ne_zero _)
theorem nH(e:V×V)(r:List (V×V))(k v:V):bC (e::r) k v=if e.1.same k then (e.1,v)::r else e::bC r k v:=rfl
noncomputable def zT(x:V):Bool:=(iR x).isSome || (kZ x).isSome
noncomputable def zU(k:V):Bool:=(iR k).isSome || (jm k).any fun xs=>xs.all zT
noncomputable def vO(a k:V):Bool:=(iR a).isSome && (iR k).isSome || (jm a).isSome && (jm k).isSome
noncomputable def bB(es:List (V×V))(k:V):Bool:=zU k && es.all fun e=>vO e.1 k
noncomputable def bU:List V→Option (List Txt)
 | []=>some []
 | .str s::r=>(bU r).map (s:: ·)
 | _::_=> .none
noncomputable def jO(sep:Txt):List Txt→Txt
 | []=> []
 | [x]=>x
 | x::r=>x++sep++jO sep r
noncomputable def pM(m:BM)(self:V)(vs:List V)(H:MH)(Q:Q1):Prop:=
 match m with
 | .append=>aa (cX self) fun a=>aa (bN (H a)) fun xs=>aa (jk vs) fun x=>xs.length<bh∧Q .none (H.upd a (.list (xs++ [x])))
 | .lpop=>aa (cX self) fun a=>aa (bN (H a)) fun xs=>vs= []∧xs.length≤bh∧aa xs.getLast? fun x=>Q x (H.upd a (.list xs.dropLast))
 | .extend=>aa (cX self) fun a=>aa (bN (H a)) fun xs=>aa ((jk vs).bind cX) fun b=>aa (bN (H b)) fun ys=>
   a≠b∧(xs++ys).length≤bh∧Q .none (H.upd a (.list (xs++ys)))
 | .index=>aa (cX self) fun a=>aa (bN (H a)) fun xs=>aa ((jk vs).bind iR) fun s=>aa (bU xs) fun ts=>s∈ts∧ts.length≤bh∧Q (.int (ts.idxOf s:Nat)) H
 | .dget=>aa (cX self) fun a=>aa (lq (H a)) fun es=>aa (jk vs) fun k=>bB es k=true∧Q ((aW es k).getD .none) H
 | .dpop=>aa (cX self) fun a=>aa (lq (H a)) fun es=>aa (pK vs) fun p=>aa (iR p.1) fun k=>bB es (.str k)=true∧aW es (.str k)= .none∧Q p.2 H
 | .join=>aa (iR self) fun sep=>aa ((jk vs).bind cX) fun b=>aa (bN (H b)) fun ys=>aa (bU ys) fun ts=>
   (ts.map (·.length)).sum+ts.length*sep.length≤bh∧Q (.str (jO sep ts)) H
 | .excInit=>aa ((pK vs).bind fun p=>cX p.1) fun a=>aa (excO (H a)) fun zz=>Q .none H
noncomputable def eF(i:Int):Txt:=S (toString i)
noncomputable def rW(T:Tab)(v:V)(H:MH)(Q:Q1):Prop:=
 match v with
 | .str s=>s.length≤bh∧Q (.int s.length) H
 | .tup xs=>xs.length≤bh∧Q (.int xs.length) H
 | .ref a=>aa (bN (H a)) fun xs=>xs.length≤bh∧Q (.int xs.length) H
 | .con w=>aa ((vN w).bind T.lst) fun xs=>xs.length≤bh∧Q (.int xs.length) H
 | _=>False
noncomputable def pN(t:String)(isStr:Bool)(H:MH)(Q:Q1):Prop:=br (t=="str") (Q (.bool isStr) H) (t="tuple"∧Q (.bool !isStr) H)
noncomputable def lY:V→Option PySem.Value
 | .con w=>some w
 | _=> .none
noncomputable def vP:Option O→Option Nat
 | some (.inst c _)=>some c
 | _=> .none
noncomputable def rY(T:Tab)(v:V)(H:MH)(Q:Q1):PySem.Value→Prop
 | .ref c=>match v with
  | .str _=>(T.cls c).isSome=true∧Q (.bool false) H
  | .ref a=>aa (vP (H a)) fun k=>k=c∧Q (.bool true) H
  | _=>False
 | .type t=>match v with
  | .str _=>pN t true H Q
  | .tup _=>pN t false H Q
  | _=>False
 | _=>False
noncomputable def nJ(T:Tab)(hd:Option Nat)(id:String)(vs:List V)(H:MH)(Q:Q1):Prop:=
 br (id=="len") (aa (jk vs) fun v=>rW T v H Q) (aa (pK vs) fun p=>
  br (id=="isinstance") (aa (lY p.2) fun w=>rY T p.1 H Q w)
   (id="max"∧aa (cY p.1) fun a=>aa (cY p.2) fun b=>hd= .none∧Q (.int (max a b)) H))
noncomputable def rZ(t:String)(vs:List V)(H:MH)(Q:Q1):Prop:=
 aa (jk vs) fun v=>br (t=="str") (aa (cY v) fun i=>i.natAbs<10000000000∧Q (.str (eF i)) H)
  (t="tuple"∧aa (cX v) fun a=>aa (bN (H a)) fun xs=>xs.length≤bh∧Q (.tup xs) H)
noncomputable def su:Bop→Int→Int→Option Int
 | .add,a,b=>some (a+b)
 | .sub,a,b=>some (a - b)
 | .mul,a,b=>if a.natAbs<4294967296∧b.natAbs<4294967296 then some (a*b) else .none
 | .fdiv,a,b=>if 0<b∧b<1073741824 then some (a.fdiv b) else .none
 | .fmod,a,b=>if 0<b then some (a.fmod b) else .none
 | .pow,a,b=>if a=2∧0≤b∧b≤30 then some (2 ^ b.toNat) else .none
noncomputable def pO(op:Bop)(a b:V)(H:MH)(Q:Q1):Prop:=
 match a with
 | .int x=>aa (cY b) fun y=>aa (su op x y) fun z=>Q (.int z) H
 | .str x=>match b with
  | .str y=>op= .add∧(x++y).length≤bh∧Q (.str (x++y)) H
  | .int y=>op= .mul∧1≤y∧y≤1000∧x.length=1∧Q (.str (List.replicate y.toNat x).flatten) H
  | _=>False
 | .tup x=>match b with
  | .tup y=>op= .add∧(x++y).length≤bh∧Q (.tup (x++y)) H
  | _=>False
 | .ref x=>aa (bN (H x)) fun xs=>match b with
   | .ref y=>op= .add∧aa (bN (H y)) fun ys=>(xs++ys).length≤bh∧∀z,H z= .none→Q (.ref z) (H.upd z (.list (xs++ys)))
   | .int y=>op= .mul∧xs.length≤1000∧y=0∧∀z,H z= .none→Q (.ref z) (H.upd z (.list []))
   | _=>False
 | _=>False
noncomputable def zV:Bop→Int→Int→Option Int
 | .add,x,y=>some (x+y)
 | .sub,x,y=>some (x - y)
 | _,_,_=> .none
noncomputable def nM(op:Bop)(a b:V)(H:MH)(Q:Q1):Prop:=aa (cY a) fun x=>aa (cY b) fun y=>aa (zV op x y) fun z=>Q (.int z) H
noncomputable def ig(f:V→V→Bool)(xs ys:List V):Bool:=xs.length==ys.length && (xs.zip ys).all fun p=>f p.1 p.2
noncomputable def V.sameD(H:MH):Nat→V→V→Bool
 | 0,a,b=>V.sameF a b
 | n+1,a,b=>V.sameF a b || ((jm a).any fun xs=>(jm b).any fun ys=>ig (V.sameD H n) xs ys) ||
   (((cX a).bind fun x=>bN (H x)).any fun xs=>((cX b).bind fun y=>bN (H y)).any fun ys=>ig (V.sameD H n) xs ys)
noncomputable def vQ(H:MH)(a b:V):Option Bool:=
 match a with
 | .int a=>(cY b).map fun b=>a==b
 | .str a=>(iR b).map fun b=>a==b
 | .bool a=>(kZ b).map fun b=>a==b
 | .ref a=>(cX b).bind fun b=>(bN (H a)).bind fun xs=>(bN (H b)).bind fun ys=>
   if xs.length=ys.length then (if ig (V.sameD H 8) xs ys then some true else .none) else some false
 | _=> .none
noncomputable def pP:List V→Option (List Int)
 | []=>some []
 | .int i::r=>(pP r).map (i:: ·)
 | _::_=> .none
noncomputable def vR(H:MH)(a b:V):Option Bool:=
 match a with
 | .int i=>(cX b).bind fun r=>(bN (H r)).bind fun xs=>(pP xs).map fun is=>is.contains i
 | .str s=>match b with
  | .ref r=>(lq (H r)).bind fun es=>dC (bB es (.str s)) (some (aW es (.str s)).isSome)
  | .tup xs=>(bU xs).map fun ts=>ts.contains s
  | .str t=>(vK s).map fun c=>t.contains c
  | _=> .none
 | _=> .none
noncomputable def nO(f:Int→Int→Bool)(a b:V):Option Bool:=(cY a).bind fun x=>(cY b).map fun y=>f x y
noncomputable def sy(H:MH)(op:Cop)(a b:V):Option Bool:=
 match op with
 | .eq=>vQ H a b
 | .ne=>(vQ H a b).map (!·)
 | .lt=>nO (fun x y=>decide (x<y)) a b
 | .le=>nO (fun x y=>decide (x≤y)) a b
 | .gt=>nO (fun x y=>decide (y<x)) a b
 | .ge=>nO (fun x y=>decide (y≤x)) a b
 | .is=>dC (isNone b) (some (isNone a))
 | .isNot=>dC (isNone b) (some !(isNone a))
 | .isin=>vR H a b
 | .notin=>(vR H a b).map (!·)
noncomputable def jo(op:Cop)(a b:V)(H:MH)(Q:Bool→MH→Prop):Prop:=aa (sy H op a b) fun r=>Q r H
noncomputable def small(n:Nat):Bool:=Nat.ble n bh
noncomputable def cP(n:Nat)(i:Int):Option Nat:=dC (small n) (match i with
 | .ofNat k=>some k
 | .negSucc k=>dC (Nat.ble (k+1) n) (some (n - (k+1))))
noncomputable def zW(H:MH)(a i:V):Option V:=
 match a with
 | .ref r=>(H r).bind fun o=>match o with
   | .list xs=>(cY i).bind fun k=>(cP xs.length k).bind fun p=>xs[p]?
   | .dict es=>(iR i).bind fun s=>dC (bB es (.str s)) (aW es (.str s))
   | _=> .none
 | .tup xs=>(cY i).bind fun k=>(cP xs.length k).bind fun p=>xs[p]?
 | .str s=>(cY i).bind fun k=>(cP s.length k).bind fun p=>(s[p]?).map fun c=> .str [c]
 | _=> .none
noncomputable def vU(T:Tab)(x y:V):Option V:=((lY x).bind vN).bind fun r=>(T.lst r).bind fun xs=>(cY y).bind fun k=>(cP xs.length k).bind fun p=>(xs[p]?).map .int
noncomputable def sE(T:Tab)(H:MH)(x y:V):Option V:=match x with
 | .con _=>vU T x y
 | _=>zW H x y
noncomputable def jq:V→Option (Option Nat)
 | .none=>some .none
 | .int i=>if 0≤i∧i<1000000000 then some (some i.toNat) else .none
 | _=> .none
noncomputable def cI{α:Type}(xs:List α)(lo hi:Option Nat):List α:=(match hi with | some h=>xs.take h | .none=>xs).drop (lo.getD 0)
noncomputable def sG(a lo hi:V)(H:MH)(Q:Q1):Prop:=
 aa (jq lo) fun l=>aa (jq hi) fun h=>match a with
  | .str s=>l= .none∧h.isSome=true∧(cI s l h).length≤bh∧Q (.str (cI s l h)) H
  | .ref r=>aa (bN (H r)) fun xs=>xs.length≤bh∧∀z,H z= .none→Q (.ref z) (H.upd z (.list (cI xs l h)))
  | _=>False
noncomputable def zX:O→Option (List (String×V))
 | .inst _ fs=>some fs
 | .exc _ fs=>some fs
 | _=> .none
noncomputable def sH(H:MH)(v:V):Option (List (String×V)):=(cX v).bind fun a=>(H a).bind zX
noncomputable def gO(T:Tab)(c:Nat)(n:String):Bool:=(T.cls c).any fun k=>k.fields.contains n
noncomputable def setField(T:Tab)(H:MH)(o:V)(n:String)(v:V):Option MH:=(cX o).bind fun a=>(H a).bind fun o=>match o with
 | .inst c fs=>dC (gO T c n) (some (H.upd a (.inst c (put fs n v))))
 | .exc c fs=>dC (gO T c n) (some (H.upd a (.exc c (put fs n v))))
 | _=> .none
noncomputable def vV(H:MH)(o i v:V):Option MH:=(cX o).bind fun a=>(H a).bind fun o=>match o with
 | .list xs=>(cY i).bind fun k=>if 0≤k∧k.toNat<xs.length∧xs.length≤bh then some (H.upd a (.list (xs.set k.toNat v))) else .none
 | .dict es=>dC (bB es i) (if es.length<1000 then some (H.upd a (.dict (bC es i v))) else .none)
 | _=> .none
noncomputable def fO(H:MH)(rng:Bool)(v:V):Option (List V×(MH→Prop)):=
 match rng with
 | true=>(cY v).bind fun n=>if 0≤n∧n≤1000 then some ((List.range n.toNat).map fun k:Nat=>V.int (k:Int),fun zz=>True) else .none
 | false=>match v with
  | .ref a=>(bN (H a)).map fun xs=>(xs,fun H'=>H' a=some (.list xs))
  | .tup xs=>some (xs,fun zz=>True)
  | _=> .none
noncomputable def JX(go:List V→MH→Prop)(acc:List V):Option V→MH→Prop:=fun o H'=>match o with
 | .none=>go acc H'
 | some y=>go (acc++ [y]) H'
noncomputable def nP(src:MH→Prop)(step:V→MH→(Option V→MH→Prop)→Prop)(Q:List V→MH→Prop):List V→List V→MH→Prop
 | [],acc,H=>src H∧Q acc H
 | v::r,acc,H=>src H∧step v H (JX (fun a h=>nP src step Q r a h) acc)
noncomputable def zY(go:Loc→MH→Prop)(Q:QS):QS:=fun fl l h=>match fl with
 | .next=>go l h
 | .cont=>go l h
 | .ret w=>Q (.ret w) l h
noncomputable def pQ(src:MH→Prop)(step:V→Loc→MH→QS→Prop)(Q:QS):List V→Loc→MH→Prop
 | [],loc,H=>src H∧Q .next loc H
 | v::r,loc,H=>src H∧step v loc H (zY (fun l h=>pQ src step Q r l h) Q)
noncomputable def JZ(loc:Loc)(body:MH→Prop)(Q:QS):Bool→MH→Prop:=fun b H'=>br b (body H') (Q .next loc H')
noncomputable def pR(test:Loc→MH→(Bool→MH→Prop)→Prop)(body:Loc→MH→QS→Prop)(Q:QS):Nat→Loc→MH→Prop
 | 0,_,_=>False
 | n+1,loc,H=>test loc H (JZ loc (fun h=>body loc h (zY (fun l h=>pR test body Q n l h) Q)) Q)
noncomputable def vW(ks vs:List V):Bool:=ks.length==vs.length && ks.length≤15 && match bU ks with
 | some ts=>decide ts.Nodup
 | .none=>false
abbrev Wk:=MH→Q1→Prop
noncomputable def J0(w:Wk)(op:Bop)(Q:Q1):Q1:=fun x H1=>w H1 fun y H2=>pO op x y H2 Q
noncomputable def J1(w:Wk)(op:Cop)(Q:Bool→MH→Prop):Q1:=fun x H1=>w H1 fun y H2=>jo op x y H2 Q
noncomputable def J2(Q:Q1):Bool→MH→Prop:=fun r H=>Q (.bool r) H
noncomputable def J3(n:String)(Q:Q1):Q1:=fun v H=>aa ((sH H v).bind (get · n)) fun w=>Q w H
noncomputable def J4(C:aO)(hd:Option Nat)(w:MH→(List V→MH→Prop)→Prop)(Q:Q1)(E:E1):Q1:=fun f H1=>w H1 fun vs H2=>C hd f vs H2 Q E
noncomputable def zZ(C:aO)(hd:Option Nat)(c:Cal)(vs:List V)(H:MH)(Q:Q1)(E:E1):Prop:=match c with
 | .fn f first=>C hd f (first++vs) H Q E
 | .bm m self=>pM m self vs H Q
noncomputable def J5(T:Tab)(C:aO)(hd:Option Nat)(n:String)(w:MH→(List V→MH→Prop)→Prop)(Q:Q1)(E:E1):Q1:=fun o H1=>aa (jl T H1 o n) fun c=>w H1 fun vs H2=>zZ C hd c vs H2 Q E
noncomputable def J6(Q:Q1):Q1:=fun v H=>aa (kZ v) fun b=>Q (.bool !b) H
noncomputable def J7(Q:Q1):Q1:=fun v H=>aa (cY v) fun i=>Q (.int (-i)) H
noncomputable def vX(Q:Bool→MH→Prop):Q1:=fun v H=>aa (kZ v) fun b=>Q b H
noncomputable def vY(a b:MH→Prop):Bool→MH→Prop:=fun t H=>br t (a H) (b H)
noncomputable def newL(Q:Q1):List V→MH→Prop:=fun vs H=>∀z,H z= .none→Q (.ref z) (H.upd z (.list vs))
noncomputable def newT(Q:Q1):List V→MH→Prop:=fun vs H=>Q (.tup vs) H
noncomputable def J8(T:Tab)(w:Wk)(Q:Q1):Q1:=fun x H1=>w H1 fun y H2=>aa (sE T H2 x y) fun v=>Q v H2
noncomputable def J9(w1 w2:Wk)(Q:Q1):Q1:=fun x H1=>w1 H1 fun l H2=>w2 H2 fun h H3=>sG x l h H3 Q
noncomputable def eG:E1:=fun zz zz=>False
noncomputable def Ka(w:MH→(List V→MH→Prop)→Prop)(Q:List V→MH→Prop):Q1:=fun v H1=>w H1 fun vs H2=>Q (v::vs) H2
noncomputable def Kc(isAnd:Bool)(w:MH→Prop)(Q:Q1):Q1:=fun v H=>aa (kZ v) fun b=>br (b==isAnd) (w H) (Q v H)
noncomputable def Kd(isAnd:Bool)(w:MH→Prop)(Q:Bool→MH→Prop):Bool→MH→Prop:=fun b H=>br (b==isAnd) (w H) (Q b H)
noncomputable def Ke(Q:Bool→MH→Prop):Bool→MH→Prop:=fun b H=>Q (!b) H
noncomputable def Kf(w:Wk)(op:Cop)(y:V)(Q:Bool→MH→Prop):Bool→MH→Prop:=fun r H=>br r (w H fun z H4=>jo op y z H4 Q) (Q false H)
noncomputable def Kg(w1 w2:Wk)(op op':Cop)(Q:Bool→MH→Prop):Q1:=fun x H1=>w1 H1 fun y H2=>jo op x y H2 (Kf w2 op' y Q)
noncomputable def sI(w:Wk)(q:Option V→MH→Prop):Bool→MH→Prop:=fun t H=>br t (w H fun y H4=>q (some y) H4) (q .none H)
noncomputable def Kh(rng:Bool)(step:V→MH→(Option V→MH→Prop)→Prop)(Q:Q1):Q1:=fun v H1=>aa (fO H1 rng v) fun p=>p.1.length≤bh∧nP p.2 step (newL Q) p.1 [] H1
section
variable(T:Tab)(C:aO)(hd:Option Nat)
mutual
noncomputable def we:X→Loc→MH→Q1→E1→Prop
 | .k v,_,H,Q,_=>Q v H
 | .loc x,loc,H,Q,_=>aa (get loc x) fun v=>Q v H
 | .attr e n,loc,H,Q,E=>we e loc H (J3 n Q) E
 | .call f args,loc,H,Q,E=>we f loc H (J4 C hd (fun h q=>gm args loc h q E) Q E) E
 | .meth o n args,loc,H,Q,E=>we o loc H (J5 T C hd n (fun h q=>gm args loc h q E) Q E) E
 | .bin op a b,loc,H,Q,E=>we a loc H (J0 (fun h q=>we b loc h q E) op Q) E
 | .not e,loc,H,Q,E=>we e loc H (J6 Q) E
 | .neg e,loc,H,Q,E=>we e loc H (J7 Q) E
 | .bop isAnd es,loc,H,Q,E=>sJ isAnd es loc H Q E
 | .cmp a op b,loc,H,Q,E=>we a loc H (J1 (fun h q=>we b loc h q E) op (J2 Q)) E
 | .cmp2 _ _ _ _ _,_,_,_,_=>False
 | .ite c a b,loc,H,Q,E=>wc c loc H (fun q=>we c loc H q E) (vY (fun h=>we a loc h Q E) (fun h=>we b loc h Q E)) E
 | .list es,loc,H,Q,E=>pL es.length=true∧gm es loc H (newL Q) E
 | .tup es,loc,H,Q,E=>pL es.length=true∧gm es loc H (newT Q) E
 | .dict ks vs,_,H,Q,_=>vW ks vs=true∧∀z,H z= .none→Q (.ref z) (H.upd z (.dict (ks.zip vs)))
 | .sub a i,loc,H,Q,E=>we a loc H (J8 T (fun h q=>we i loc h q E) Q) E
 | .slice a lo hi,loc,H,Q,E=>we a loc H (J9 (fun h q=>we lo loc h q E) (fun h q=>we hi loc h q E) Q) E
 | .comp elt x rng it ifs,loc,H,Q,E=>we it loc H (Kh rng (fun w h q=>iT true ifs (put loc x w) h (sI (fun h2 q2=>we elt (put loc x w) h2 q2 eG) q) eG) Q) E
noncomputable def gm:List X→Loc→MH→(List V→MH→Prop)→E1→Prop
 | [],_,H,Q,_=>Q [] H
 | e::r,loc,H,Q,E=>we e loc H (Ka (fun h q=>gm r loc h q E) Q) E
noncomputable def sJ(isAnd:Bool):List X→Loc→MH→Q1→E1→Prop
 | [],_,_,_,_=>False
 | e::r,loc,H,Q,E=>match r with
  | []=>we e loc H Q E
  | _::_=>we e loc H (Kc isAnd (fun h=>sJ isAnd r loc h Q E) Q) E
noncomputable def wc:X→Loc→MH→(Q1→Prop)→(Bool→MH→Prop)→E1→Prop
 | .not e,loc,H,_,Q,E=>wc e loc H (fun q=>we e loc H q E) (Ke Q) E
 | .bop isAnd es,loc,H,_,Q,E=>iT isAnd es loc H Q E
 | .ite c a b,loc,H,_,Q,E=>wc c loc H (fun q=>we c loc H q E) (vY (fun h=>wc a loc h (fun q=>we a loc h q E) Q E) (fun h=>wc b loc h (fun q=>we b loc h q E) Q E)) E
 | .cmp2 a op b op' c,loc,H,_,Q,E=>we a loc H (Kg (fun h q=>we b loc h q E) (fun h q=>we c loc h q E) op op' Q) E
 | _,_,_,whole,Q,_=>whole (vX Q)
noncomputable def iT(isAnd:Bool):List X→Loc→MH→(Bool→MH→Prop)→E1→Prop
 | [],_,H,Q,_=>Q isAnd H
 | e::r,loc,H,Q,E=>wc e loc H (fun q=>we e loc H q E) (Kd isAnd (fun h=>iT isAnd r loc h Q E) Q) E
end
noncomputable def Kl(n:String)(v:V)(Q:MH→Prop):Q1:=fun ov H=>aa (setField T H ov n v) Q
noncomputable def Km(v:V)(w:Wk)(Q:MH→Prop):Q1:=fun ov H1=>w H1 fun iv H2=>aa (vV H2 ov iv v) Q
noncomputable def nQ(xs:List String)(vs:List V)(loc:Loc):Loc:=(xs.zip vs).foldl (fun l p=>put l p.1 p.2) loc
noncomputable def z7(H:MH):V→Option (List V)
 | .tup vs=>some vs
 | .ref a=>bN (H a)
 | _=> .none
noncomputable def wt(t:Tgt)(v:V)(loc:Loc)(H:MH)(Q:Loc→MH→Prop)(E:E1):Prop:=match t with
 | .name x=>Q (put loc x v) H
 | .attr o n=>we T C hd o loc H (Kl T n v (Q loc)) E
 | .sub o i=>we T C hd o loc H (Km v (fun h q=>we T C hd i loc h q E) (Q loc)) E
 | .names xs=>aa (z7 H v) fun vs=>vs.length=xs.length∧Q (nQ xs vs loc) H
end
noncomputable def dm(E:ES)(loc:Loc):E1:=fun x H=>E x loc H
noncomputable def Ko(Q:QS):Loc→MH→Prop:=fun loc H=>Q .next loc H
noncomputable def Kp(Q:QS)(loc:Loc):Q1:=fun zz H=>Q .next loc H
noncomputable def Kq(Q:QS)(loc:Loc):Q1:=fun v H=>Q (.ret v) loc H
noncomputable def Kr(T:Tab)(C:aO)(hd:Option Nat)(t:Tgt)(loc:Loc)(Q:QS)(E:ES):Q1:=fun v H=>wt T C hd t v loc H (Ko Q) (dm E loc)
noncomputable def Ks(op:Bop)(old:V)(x:String)(loc:Loc)(Q:QS):Q1:=fun v H=>nM op old v H fun w H'=>Q .next (put loc x w) H'
noncomputable def Ku(T:Tab)(op:Bop)(ov old:V)(n:String)(loc:Loc)(Q:QS):Q1:=fun v H2=>nM op old v H2 fun w H3=>aa (setField T H3 ov n w) fun H4=>Q .next loc H4
noncomputable def Kv(T:Tab)(w:Wk)(op:Bop)(n:String)(loc:Loc)(Q:QS):Q1:=fun ov H1=>aa ((sH H1 ov).bind (get · n)) fun old=>w H1 (Ku T op ov old n loc Q)
noncomputable def Kw(hd:Option Nat)(E:ES)(loc:Loc):Q1:=fun v H=>aa (cX v) fun a=>aa (excO (H a)) fun zz=>hd.getD a=a∧E a loc H
noncomputable def Ky(w:Loc→MH→Prop)(Q:QS):QS:=fun fl l h=>match fl with
 | .next=>w l h
 | .cont=>Q .cont l h
 | .ret v=>Q (.ret v) l h
noncomputable def Kz(n:String)(Q:QS):QS:=fun fl l h=>Q fl (del l n) h
noncomputable def KC(n:String)(E:ES):ES:=fun y l h=>E y (del l n) h
noncomputable def z8(cls:Nat)(name:Option String)(w:Nat→Loc→MH→QS→ES→Prop)(Q:QS)(E:ES):ES:=fun x l h=>aa (excO (h x)) fun c=>c=cls∧match name with
 | .none=>w x l h Q E
 | some n=>w x (put l n (.ref x)) h (Kz n Q) (KC n E)
noncomputable def sO(K:Loc→MH→Prop):QS:=fun fl l h=>match fl with
 | .next=>K l h
 | .cont=>False
 | .ret _=>False
noncomputable def jP:ES:=fun zz zz zz=>False
noncomputable def KD(w:Loc→MH→QS→Prop)(Q:QS):QS:=fun fl l h=>w l h (sO (Q fl))
noncomputable def KH(w:Nat→Loc→MH→QS→Prop)(E:ES):ES:=fun x l h=>w x l h (sO (E x))
noncomputable def KJ(T:Tab)(C:aO)(hd:Option Nat)(t:Tgt)(rng:Bool)(body:Loc→MH→QS→Prop)(loc:Loc)(Q:QS):Q1:=fun v H1=>aa (fO H1 rng v) fun p=>pQ p.2 (fun w l h q=>wt T C hd t w l h (fun l' h'=>body l' h' q) eG) Q p.1 loc H1
noncomputable def vZ(x a b:String)(loc:Loc)(H:MH)(Q:QS):Prop:=aa ((get loc a).bind cX) fun ra=>aa ((get loc b).bind cX) fun rb=>aa (lq (H ra)) fun ea=>aa (lq (H rb)) fun eb=>
 ra≠rb∧x≠a∧x≠b∧(bU (ea.map (·.1))).isSome=true∧(bU (eb.map (·.1))).isSome=true∧ea.length+eb.length<1000∧
  Q .next ((eb.map (·.1)).foldl (fun l k=>put l x k) loc) (H.upd ra (.dict (eb.foldl (fun l e=>bC l e.1 e.2) ea)))
section
variable(T:Tab)(C:aO)(N:Nat)
mutual
noncomputable def ws(hd:Option Nat):St→Loc→MH→QS→ES→Prop
 | .expr e,loc,H,Q,E=>we T C hd e loc H (Kp Q loc) (dm E loc)
 | .assign t e,loc,H,Q,E=>we T C hd e loc H (Kr T C hd t loc Q E) (dm E loc)
 | .augName x op e,loc,H,Q,E=>aa (get loc x) fun old=>we T C hd e loc H (Ks op old x loc Q) (dm E loc)
 | .augAttr o n op e,loc,H,Q,E=>we T C hd o loc H (Kv T (fun h q=>we T C hd e loc h q (dm E loc)) op n loc Q) (dm E loc)
 | .ret e,loc,H,Q,E=>we T C hd e loc H (Kq Q loc) (dm E loc)
 | .cond c a b,loc,H,Q,E=>wc T C hd c loc H (fun q=>we T C hd c loc H q (dm E loc)) (vY (fun h=>b8 hd a loc h Q E) (fun h=>b8 hd b loc h Q E)) (dm E loc)
 | .loop c body,loc,H,Q,E=>pR (fun l h q=>wc T C hd c l h (fun q'=>we T C hd c l h q' (dm E l)) q (dm E l)) (fun l h q=>b8 hd body l h q E) Q N loc H
 | .each t rng it body,loc,H,Q,E=>we T C hd it loc H (KJ T C hd t rng (fun l h q=>b8 hd body l h q jP) loc Q) (dm E loc)
 | .cont,loc,H,Q,_=>Q .cont loc H
 | .copyAll x a b,loc,H,Q,_=>vZ x a b loc H Q
 | .raise e,loc,H,_,E=>we T C hd e loc H (Kw hd E loc) (dm E loc)
 | .tryExc body cls name h,loc,H,Q,E=>b8 hd body loc H Q (z8 cls name (fun x l m q e=>b8 (some x) h l m q e) Q E)
 | .tryFin body fin,loc,H,Q,E=>b8 hd body loc H (KD (fun l h q=>b8 hd fin l h q E) Q) (KH (fun x l h q=>b8 (some x) fin l h q jP) E)
noncomputable def b8(hd:Option Nat):List St→Loc→MH→QS→ES→Prop
 | [],loc,H,Q,_=>Q .next loc H
 | s::r,loc,H,Q,E=>ws hd s loc H (Ky (fun l h=>b8 hd r l h Q E) Q) E
end
end
noncomputable def jr(ps:List String)(df vs:List V):Option Loc:=
 if vs.length≤ps.length∧ps.length≤vs.length+df.length then some (ps.zip (vs++df.drop (df.length+vs.length - ps.length))) else .none
noncomputable def nR(Q:Q1):QS:=fun fl zz H=>match fl with
 | .ret v=>Q v H
 | .next=>Q .none H
 | .cont=>False
noncomputable def iU(E:E1):ES:=fun x zz H=>E x H
noncomputable def lZ(x:Nat)(Q:Q1):Q1:=fun v H=>v= .none∧Q (.ref x) H
noncomputable def iV(isExc:Bool)(a:Nat):O:=match isExc with
 | true=> .exc a []
 | false=> .inst a []
noncomputable def au(T:Tab)(N:Nat):Nat→aO
 | 0=>fun zz zz zz zz zz zz=>False
 | d+1=>fun hd f vs H Q E=>match f with
  | .con (.ref a)=>match T.fn a with
   | some fn=>aa (jr fn.params fn.dflt vs) fun loc=>b8 T (au T N d) N hd fn.body loc H (nR Q) (iU E)
   | .none=>aa (T.cls a) fun c=>∀x,H x= .none→au T N d hd (.con (.ref c.init)) (.ref x::vs) (H.upd x (iV c.isExc a)) (lZ x Q) E
  | .con (.builtin id)=>nJ T hd id vs H Q
  | .con (.type t)=>rZ t vs H Q
  | _=>False
end Mine
namespace Mine
open PySem PySem.Calls PyProof.Rows
open PySem.W
noncomputable def nm(n:String):Str:=Str.ofString n
noncomputable def pU:Value→Bool
 | .ref _=>true
 | .type _=>true
 | .builtin i=>handedIn (.builtin i)
 | _=>false
abbrev SC:=List (Str×NameKind)
noncomputable def jt:Operator→Option Bop
 | .Add=>some .add
 | .Sub=>some .sub
 | .Mult=>some .mul
 | .FloorDiv=>some .fdiv
 | .Mod=>some .fmod
 | .Pow=>some .pow
 | _=>none
noncomputable def jQ:CmpOp→Cop
 | .Eq=> .eq
 | .NotEq=> .ne
 | .Lt=> .lt
 | .LtE=> .le
 | .Gt=> .gt
 | .GtE=> .ge
 | .Is=> .is
 | .IsNot=> .isNot
 | .In=> .isin
 | .NotIn=> .notin
noncomputable def pW:Expr→Bool
 | .Call f _ _ _=> !(Nat.beq f.ctorIdx 23)
 | _=>true
noncomputable def fQ(e:Expr):Bool:= !(Nat.beq e.ctorIdx 22)
noncomputable def z9(e:Expr):Bool:= !(Nat.beq e.ctorIdx 20)
noncomputable def nT(e:Expr):Bool:= !(Nat.beq e.ctorIdx 26)
noncomputable def gq(e:Expr):Bool:= !(Nat.beq e.ctorIdx 7)
noncomputable def cZ(outer:SC)(sc:SC):SC:=sc.map fun p=>if p.2== .free && outer.lookup p.1==some .cell then (p.1, .cell) else p
noncomputable def v5(e:Expr):Bool:= !(Nat.ble 8 e.ctorIdx && Nat.ble e.ctorIdx 10)
noncomputable def sS(sc:SC)(ts:List Expr):List Str:=ts.filterMap fun
 | .Name id pos=>if sc.lookup id==some .local && pos.line==(ts.head?.map (·.pos.line)).getD 0 then some id else none
 | _=>none
noncomputable def v6(sc:SC)(ts vs:List Expr):Option (Option (List Str)):=
 if !(ts.length==2 || ts.length==3) || vs.length !=ts.length || false then some none
 else if vs.any fun | .Starred ..=>true | _=>false then some none
 else if (sS sc ts).length !=ts.length || (sS sc ts).eraseDups.length !=(sS sc ts).length then some none
 else if vs.all (foldedForSure 8) then some none
 else if vs.all (constantsAlone 8) then none
 else some (some (sS sc ts))
noncomputable def Aa(e:Expr):Option (List Expr):= @Expr.casesOn (fun zz=>Option (List Expr)) e (fun zz zz zz=>none) (fun zz zz zz=>none) (fun zz zz zz zz=>none) (fun zz zz zz=>none) (fun zz zz zz zz=>none) (fun zz zz zz zz=>none) (fun zz zz zz=>none) (fun zz zz zz=>none) (fun zz zz zz zz=>none) (fun zz zz zz zz=>none) (fun zz zz zz zz zz=>none) (fun zz zz zz zz=>none) (fun zz zz=>none) (fun zz zz=>none) (fun zz zz=>none) (fun zz zz zz zz=>none) (fun zz zz zz zz=>none) (fun zz zz zz zz=>none) (fun zz zz=>none) (fun zz zz zz=>none) (fun zz zz zz=>none) (fun zz zz zz=>none) (fun zz zz=>none) (fun zz zz=>none) (fun zz zz=>none) (fun es zz zz=>some es) (fun zz zz zz zz=>none)
noncomputable def KN(e:Expr):Bool:= @Expr.casesOn (fun zz=>Bool) e (fun zz zz zz=>false) (fun zz zz zz=>false) (fun zz zz zz zz=>false) (fun zz zz zz=>false) (fun zz zz zz zz=>false) (fun zz zz zz zz=>false) (fun zz zz zz=>false) (fun zz zz zz=>false) (fun zz zz zz zz=>false) (fun zz zz zz zz=>false) (fun zz zz zz zz zz=>false) (fun zz zz zz zz=>false) (fun zz zz=>false) (fun zz zz=>false) (fun zz zz=>false) (fun zz zz zz zz=>false) (fun zz zz zz zz=>false) (fun zz zz zz zz=>false) (fun zz zz=>false) (fun zz zz zz=>false) (fun zz zz zz=>false) (fun zz zz zz=>false) (fun zz zz=>false) (fun zz zz=>false) (fun zz zz=>true) (fun zz zz zz=>false) (fun zz zz zz zz=>false)
noncomputable def pX(sc:SC)(t e:Expr):Option (Option (List Str)):=match Aa t with
 | some ts=>match Aa e with
  | some vs=>v6 sc ts vs
  | none=>some none
 | none=>match KN t with
  | true=>none
  | false=>some none
noncomputable def nU(sc:SC):Expr→Expr→Bool
 | .ListComp _ _ scope p, .Name t tp=>sc.lookup t==some .local && tp.line==p.line && !(scope.names.any fun q=>q.1==t && (q.2== .local || q.2== .cell))
 | _,_=>false
noncomputable def sU(e:Expr):Bool:= !(Nat.ble 9 e.ctorIdx && Nat.ble e.ctorIdx 10)
noncomputable def fU{α:Type}(xs:List α)(k:α→Bool):Bool:=match xs with
 | []=>false
 | x::r=>r.isEmpty && k x
noncomputable def gA{α:Type}(o:Option α)(k:α→Bool):Bool:=match o with
 | some x=>k x
 | none=>false
noncomputable def v7(e:Expr)(k:(Const)→Bool):Bool:= @Expr.casesOn (fun zz=>Bool) e (fun zz zz zz=>false) (fun zz zz zz=>false) (fun zz zz zz zz=>false) (fun zz zz zz=>false) (fun zz zz zz zz=>false) (fun zz zz zz zz=>false) (fun zz zz zz=>false) (fun zz zz zz=>false) (fun zz zz zz zz=>false) (fun zz zz zz zz=>false) (fun zz zz zz zz zz=>false) (fun zz zz zz zz=>false) (fun zz zz=>false) (fun zz zz=>false) (fun zz zz=>false) (fun zz zz zz zz=>false) (fun zz zz zz zz=>false) (fun zz zz zz zz=>false) (fun zz zz=>false) (fun c zz zz=>k c) (fun zz zz zz=>false) (fun zz zz zz=>false) (fun zz zz=>false) (fun zz zz=>false) (fun zz zz=>false) (fun zz zz zz=>false) (fun zz zz zz zz=>false)
noncomputable def dJ(e:Expr)(k:(Str)→Bool):Bool:= @Expr.casesOn (fun zz=>Bool) e (fun zz zz zz=>false) (fun zz zz zz=>false) (fun zz zz zz zz=>false) (fun zz zz zz=>false) (fun zz zz zz zz=>false) (fun zz zz zz zz=>false) (fun zz zz zz=>false) (fun zz zz zz=>false) (fun zz zz zz zz=>false) (fun zz zz zz zz=>false) (fun zz zz zz zz zz=>false) (fun zz zz zz zz=>false) (fun zz zz=>false) (fun zz zz=>false) (fun zz zz=>false) (fun zz zz zz zz=>false) (fun zz zz zz zz=>false) (fun zz zz zz zz=>false) (fun zz zz=>false) (fun zz zz zz=>false) (fun zz zz zz=>false) (fun zz zz zz=>false) (fun zz zz=>false) (fun id zz=>k id) (fun zz zz=>false) (fun zz zz zz=>false) (fun zz zz zz zz=>false)
noncomputable def pY(e:Expr)(k:(Expr)→(Str)→(Pos)→Bool):Bool:= @Expr.casesOn (fun zz=>Bool) e (fun zz zz zz=>false) (fun zz zz zz=>false) (fun zz zz zz zz=>false) (fun zz zz zz=>false) (fun zz zz zz zz=>false) (fun zz zz zz zz=>false) (fun zz zz zz=>false) (fun zz zz zz=>false) (fun zz zz zz zz=>false) (fun zz zz zz zz=>false) (fun zz zz zz zz zz=>false) (fun zz zz zz zz=>false) (fun zz zz=>false) (fun zz zz=>false) (fun zz zz=>false) (fun zz zz zz zz=>false) (fun zz zz zz zz=>false) (fun zz zz zz zz=>false) (fun zz zz=>false) (fun zz zz zz=>false) (fun o m p=>k o m p) (fun zz zz zz=>false) (fun zz zz=>false) (fun zz zz=>false) (fun zz zz=>false) (fun zz zz zz=>false) (fun zz zz zz zz=>false)
noncomputable def sV(e:Expr)(k:(Expr)→(List Expr)→(List Keyword)→(Pos)→Bool):Bool:= @Expr.casesOn (fun zz=>Bool) e (fun zz zz zz=>false) (fun zz zz zz=>false) (fun zz zz zz zz=>false) (fun zz zz zz=>false) (fun zz zz zz zz=>false) (fun zz zz zz zz=>false) (fun zz zz zz=>false) (fun zz zz zz=>false) (fun zz zz zz zz=>false) (fun zz zz zz zz=>false) (fun zz zz zz zz zz=>false) (fun zz zz zz zz=>false) (fun zz zz=>false) (fun zz zz=>false) (fun zz zz=>false) (fun zz zz zz zz=>false) (fun fn as kw p=>k fn as kw p) (fun zz zz zz zz=>false) (fun zz zz=>false) (fun zz zz zz=>false) (fun zz zz zz=>false) (fun zz zz zz=>false) (fun zz zz=>false) (fun zz zz=>false) (fun zz zz=>false) (fun zz zz zz=>false) (fun zz zz zz zz=>false)
noncomputable def Ab(e:Expr)(k:(Expr)→(Operator)→(Expr)→Bool):Bool:= @Expr.casesOn (fun zz=>Bool) e (fun zz zz zz=>false) (fun zz zz zz=>false) (fun a op b zz=>k a op b) (fun zz zz zz=>false) (fun zz zz zz zz=>false) (fun zz zz zz zz=>false) (fun zz zz zz=>false) (fun zz zz zz=>false) (fun zz zz zz zz=>false) (fun zz zz zz zz=>false) (fun zz zz zz zz zz=>false) (fun zz zz zz zz=>false) (fun zz zz=>false) (fun zz zz=>false) (fun zz zz=>false) (fun zz zz zz zz=>false) (fun zz zz zz zz=>false) (fun zz zz zz zz=>false) (fun zz zz=>false) (fun zz zz zz=>false) (fun zz zz zz=>false) (fun zz zz zz=>false) (fun zz zz=>false) (fun zz zz=>false) (fun zz zz=>false) (fun zz zz zz=>false) (fun zz zz zz zz=>false)
noncomputable def v8(e:Expr)(k:(UnaryOp)→(Expr)→Bool):Bool:= @Expr.casesOn (fun zz=>Bool) e (fun zz zz zz=>false) (fun zz zz zz=>false) (fun zz zz zz zz=>false) (fun op a zz=>k op a) (fun zz zz zz zz=>false) (fun zz zz zz zz=>false) (fun zz zz zz=>false) (fun zz zz zz=>false) (fun zz zz zz zz=>false) (fun zz zz zz zz=>false) (fun zz zz zz zz zz=>false) (fun zz zz zz zz=>false) (fun zz zz=>false) (fun zz zz=>false) (fun zz zz=>false) (fun zz zz zz zz=>false) (fun zz zz zz zz=>false) (fun zz zz zz zz=>false) (fun zz zz=>false) (fun zz zz zz=>false) (fun zz zz zz=>false) (fun zz zz zz=>false) (fun zz zz=>false) (fun zz zz=>false) (fun zz zz=>false) (fun zz zz zz=>false) (fun zz zz zz zz=>false)
noncomputable def Ac(e:Expr)(k:(BoolOp)→(List Expr)→Bool):Bool:= @Expr.casesOn (fun zz=>Bool) e (fun op es zz=>k op es) (fun zz zz zz=>false) (fun zz zz zz zz=>false) (fun zz zz zz=>false) (fun zz zz zz zz=>false) (fun zz zz zz zz=>false) (fun zz zz zz=>false) (fun zz zz zz=>false) (fun zz zz zz zz=>false) (fun zz zz zz zz=>false) (fun zz zz zz zz zz=>false) (fun zz zz zz zz=>false) (fun zz zz=>false) (fun zz zz=>false) (fun zz zz=>false) (fun zz zz zz zz=>false) (fun zz zz zz zz=>false) (fun zz zz zz zz=>false) (fun zz zz=>false) (fun zz zz zz=>false) (fun zz zz zz=>false) (fun zz zz zz=>false) (fun zz zz=>false) (fun zz zz=>false) (fun zz zz=>false) (fun zz zz zz=>false) (fun zz zz zz zz=>false)
noncomputable def v9(e:Expr)(k:(Expr)→(List CmpOp)→(List Expr)→Bool):Bool:= @Expr.casesOn (fun zz=>Bool) e (fun zz zz zz=>false) (fun zz zz zz=>false) (fun zz zz zz zz=>false) (fun zz zz zz=>false) (fun zz zz zz zz=>false) (fun zz zz zz zz=>false) (fun zz zz zz=>false) (fun zz zz zz=>false) (fun zz zz zz zz=>false) (fun zz zz zz zz=>false) (fun zz zz zz zz zz=>false) (fun zz zz zz zz=>false) (fun zz zz=>false) (fun zz zz=>false) (fun zz zz=>false) (fun a ops bs zz=>k a ops bs) (fun zz zz zz zz=>false) (fun zz zz zz zz=>false) (fun zz zz=>false) (fun zz zz zz=>false) (fun zz zz zz=>false) (fun zz zz zz=>false) (fun zz zz=>false) (fun zz zz=>false) (fun zz zz=>false) (fun zz zz zz=>false) (fun zz zz zz zz=>false)
noncomputable def Ad(e:Expr)(k:(Expr)→(Expr)→(Expr)→Bool):Bool:= @Expr.casesOn (fun zz=>Bool) e (fun zz zz zz=>false) (fun zz zz zz=>false) (fun zz zz zz zz=>false) (fun zz zz zz=>false) (fun zz zz zz zz=>false) (fun c a b zz=>k c a b) (fun zz zz zz=>false) (fun zz zz zz=>false) (fun zz zz zz zz=>false) (fun zz zz zz zz=>false) (fun zz zz zz zz zz=>false) (fun zz zz zz zz=>false) (fun zz zz=>false) (fun zz zz=>false) (fun zz zz=>false) (fun zz zz zz zz=>false) (fun zz zz zz zz=>false) (fun zz zz zz zz=>false) (fun zz zz=>false) (fun zz zz zz=>false) (fun zz zz zz=>false) (fun zz zz zz=>false) (fun zz zz=>false) (fun zz zz=>false) (fun zz zz=>false) (fun zz zz zz=>false) (fun zz zz zz zz=>false)
noncomputable def Ae(e:Expr)(k:(List Expr)→Bool):Bool:= @Expr.casesOn (fun zz=>Bool) e (fun zz zz zz=>false) (fun zz zz zz=>false) (fun zz zz zz zz=>false) (fun zz zz zz=>false) (fun zz zz zz zz=>false) (fun zz zz zz zz=>false) (fun zz zz zz=>false) (fun zz zz zz=>false) (fun zz zz zz zz=>false) (fun zz zz zz zz=>false) (fun zz zz zz zz zz=>false) (fun zz zz zz zz=>false) (fun zz zz=>false) (fun zz zz=>false) (fun zz zz=>false) (fun zz zz zz zz=>false) (fun zz zz zz zz=>false) (fun zz zz zz zz=>false) (fun zz zz=>false) (fun zz zz zz=>false) (fun zz zz zz=>false) (fun zz zz zz=>false) (fun zz zz=>false) (fun zz zz=>false) (fun es zz=>k es) (fun zz zz zz=>false) (fun zz zz zz zz=>false)
noncomputable def lr(e:Expr)(k:(List Expr)→Bool):Bool:= @Expr.casesOn (fun zz=>Bool) e (fun zz zz zz=>false) (fun zz zz zz=>false) (fun zz zz zz zz=>false) (fun zz zz zz=>false) (fun zz zz zz zz=>false) (fun zz zz zz zz=>false) (fun zz zz zz=>false) (fun zz zz zz=>false) (fun zz zz zz zz=>false) (fun zz zz zz zz=>false) (fun zz zz zz zz zz=>false) (fun zz zz zz zz=>false) (fun zz zz=>false) (fun zz zz=>false) (fun zz zz=>false) (fun zz zz zz zz=>false) (fun zz zz zz zz=>false) (fun zz zz zz zz=>false) (fun zz zz=>false) (fun zz zz zz=>false) (fun zz zz zz=>false) (fun zz zz zz=>false) (fun zz zz=>false) (fun zz zz=>false) (fun zz zz=>false) (fun es zz zz=>k es) (fun zz zz zz zz=>false)
noncomputable def Af(e:Expr)(k:(List (Option Expr))→(List Expr)→Bool):Bool:= @Expr.casesOn (fun zz=>Bool) e (fun zz zz zz=>false) (fun zz zz zz=>false) (fun zz zz zz zz=>false) (fun zz zz zz=>false) (fun zz zz zz zz=>false) (fun zz zz zz zz=>false) (fun ks es zz=>k ks es) (fun zz zz zz=>false) (fun zz zz zz zz=>false) (fun zz zz zz zz=>false) (fun zz zz zz zz zz=>false) (fun zz zz zz zz=>false) (fun zz zz=>false) (fun zz zz=>false) (fun zz zz=>false) (fun zz zz zz zz=>false) (fun zz zz zz zz=>false) (fun zz zz zz zz=>false) (fun zz zz=>false) (fun zz zz zz=>false) (fun zz zz zz=>false) (fun zz zz zz=>false) (fun zz zz=>false) (fun zz zz=>false) (fun zz zz=>false) (fun zz zz zz=>false) (fun zz zz zz zz=>false)
noncomputable def nW(e:Expr)(k:(Expr)→(Expr)→Bool):Bool:= @Expr.casesOn (fun zz=>Bool) e (fun zz zz zz=>false) (fun zz zz zz=>false) (fun zz zz zz zz=>false) (fun zz zz zz=>false) (fun zz zz zz zz=>false) (fun zz zz zz zz=>false) (fun zz zz zz=>false) (fun zz zz zz=>false) (fun zz zz zz zz=>false) (fun zz zz zz zz=>false) (fun zz zz zz zz zz=>false) (fun zz zz zz zz=>false) (fun zz zz=>false) (fun zz zz=>false) (fun zz zz=>false) (fun zz zz zz zz=>false) (fun zz zz zz zz=>false) (fun zz zz zz zz=>false) (fun zz zz=>false) (fun zz zz zz=>false) (fun zz zz zz=>false) (fun a i zz=>k a i) (fun zz zz=>false) (fun zz zz=>false) (fun zz zz=>false) (fun zz zz zz=>false) (fun zz zz zz zz=>false)
noncomputable def Ag(e:Expr)(k:(Option Expr)→(Option Expr)→(Option Expr)→Bool):Bool:= @Expr.casesOn (fun zz=>Bool) e (fun zz zz zz=>false) (fun zz zz zz=>false) (fun zz zz zz zz=>false) (fun zz zz zz=>false) (fun zz zz zz zz=>false) (fun zz zz zz zz=>false) (fun zz zz zz=>false) (fun zz zz zz=>false) (fun zz zz zz zz=>false) (fun zz zz zz zz=>false) (fun zz zz zz zz zz=>false) (fun zz zz zz zz=>false) (fun zz zz=>false) (fun zz zz=>false) (fun zz zz=>false) (fun zz zz zz zz=>false) (fun zz zz zz zz=>false) (fun zz zz zz zz=>false) (fun zz zz=>false) (fun zz zz zz=>false) (fun zz zz zz=>false) (fun zz zz zz=>false) (fun zz zz=>false) (fun zz zz=>false) (fun zz zz=>false) (fun zz zz zz=>false) (fun lo hi st zz=>k lo hi st)
noncomputable def Ah(e:Expr)(k:(Expr)→(List Comprehension)→(Scope)→Bool):Bool:= @Expr.casesOn (fun zz=>Bool) e (fun zz zz zz=>false) (fun zz zz zz=>false) (fun zz zz zz zz=>false) (fun zz zz zz=>false) (fun zz zz zz zz=>false) (fun zz zz zz zz=>false) (fun zz zz zz=>false) (fun zz zz zz=>false) (fun a gs scope zz=>k a gs scope) (fun zz zz zz zz=>false) (fun zz zz zz zz zz=>false) (fun zz zz zz zz=>false) (fun zz zz=>false) (fun zz zz=>false) (fun zz zz=>false) (fun zz zz zz zz=>false) (fun zz zz zz zz=>false) (fun zz zz zz zz=>false) (fun zz zz=>false) (fun zz zz zz=>false) (fun zz zz zz=>false) (fun zz zz zz=>false) (fun zz zz=>false) (fun zz zz=>false) (fun zz zz=>false) (fun zz zz zz=>false) (fun zz zz zz zz=>false)
noncomputable def Ai(e:Stmt)(k:(Expr)→Bool):Bool:= @Stmt.casesOn (fun zz=>Bool) e (fun zz zz zz zz zz zz zz zz zz zz=>false) (fun zz zz zz zz zz zz zz zz zz zz=>false) (fun zz zz zz zz zz zz zz zz zz zz zz=>false) (fun zz zz=>false) (fun zz zz=>false) (fun zz zz zz=>false) (fun zz zz zz zz zz zz zz=>false) (fun zz zz zz zz=>false) (fun zz zz zz zz zz=>false) (fun zz zz zz zz zz=>false) (fun zz zz zz zz zz=>false) (fun zz zz zz zz=>false) (fun zz zz zz zz=>false) (fun zz zz zz=>false) (fun zz zz zz=>false) (fun zz zz zz=>false) (fun zz zz zz=>false) (fun zz zz zz zz zz=>false) (fun zz zz zz zz zz=>false) (fun zz zz zz=>false) (fun zz zz=>false) (fun zz zz zz zz=>false) (fun zz zz=>false) (fun zz zz=>false) (fun e zz=>k e) (fun zz=>false) (fun zz=>false) (fun zz=>false)
noncomputable def wi(e:Stmt)(k:(List Expr)→(Expr)→Bool):Bool:= @Stmt.casesOn (fun zz=>Bool) e (fun zz zz zz zz zz zz zz zz zz zz=>false) (fun zz zz zz zz zz zz zz zz zz zz=>false) (fun zz zz zz zz zz zz zz zz zz zz zz=>false) (fun zz zz=>false) (fun zz zz=>false) (fun ts e zz=>k ts e) (fun zz zz zz zz zz zz zz=>false) (fun zz zz zz zz=>false) (fun zz zz zz zz zz=>false) (fun zz zz zz zz zz=>false) (fun zz zz zz zz zz=>false) (fun zz zz zz zz=>false) (fun zz zz zz zz=>false) (fun zz zz zz=>false) (fun zz zz zz=>false) (fun zz zz zz=>false) (fun zz zz zz=>false) (fun zz zz zz zz zz=>false) (fun zz zz zz zz zz=>false) (fun zz zz zz=>false) (fun zz zz=>false) (fun zz zz zz zz=>false) (fun zz zz=>false) (fun zz zz=>false) (fun zz zz=>false) (fun zz=>false) (fun zz=>false) (fun zz=>false)
noncomputable def wj(e:Stmt)(k:(Expr)→(Operator)→(Expr)→Bool):Bool:= @Stmt.casesOn (fun zz=>Bool) e (fun zz zz zz zz zz zz zz zz zz zz=>false) (fun zz zz zz zz zz zz zz zz zz zz=>false) (fun zz zz zz zz zz zz zz zz zz zz zz=>false) (fun zz zz=>false) (fun zz zz=>false) (fun zz zz zz=>false) (fun zz zz zz zz zz zz zz=>false) (fun t op e zz=>k t op e) (fun zz zz zz zz zz=>false) (fun zz zz zz zz zz=>false) (fun zz zz zz zz zz=>false) (fun zz zz zz zz=>false) (fun zz zz zz zz=>false) (fun zz zz zz=>false) (fun zz zz zz=>false) (fun zz zz zz=>false) (fun zz zz zz=>false) (fun zz zz zz zz zz=>false) (fun zz zz zz zz zz=>false) (fun zz zz zz=>false) (fun zz zz=>false) (fun zz zz zz zz=>false) (fun zz zz=>false) (fun zz zz=>false) (fun zz zz=>false) (fun zz=>false) (fun zz=>false) (fun zz=>false)
noncomputable def Aj(e:Stmt)(k:(Option Expr)→Bool):Bool:= @Stmt.casesOn (fun zz=>Bool) e (fun zz zz zz zz zz zz zz zz zz zz=>false) (fun zz zz zz zz zz zz zz zz zz zz=>false) (fun zz zz zz zz zz zz zz zz zz zz zz=>false) (fun e zz=>k e) (fun zz zz=>false) (fun zz zz zz=>false) (fun zz zz zz zz zz zz zz=>false) (fun zz zz zz zz=>false) (fun zz zz zz zz zz=>false) (fun zz zz zz zz zz=>false) (fun zz zz zz zz zz=>false) (fun zz zz zz zz=>false) (fun zz zz zz zz=>false) (fun zz zz zz=>false) (fun zz zz zz=>false) (fun zz zz zz=>false) (fun zz zz zz=>false) (fun zz zz zz zz zz=>false) (fun zz zz zz zz zz=>false) (fun zz zz zz=>false) (fun zz zz=>false) (fun zz zz zz zz=>false) (fun zz zz=>false) (fun zz zz=>false) (fun zz zz=>false) (fun zz=>false) (fun zz=>false) (fun zz=>false)
noncomputable def Ak(e:Stmt)(k:(Expr)→(List Stmt)→(List Stmt)→Bool):Bool:= @Stmt.casesOn (fun zz=>Bool) e (fun zz zz zz zz zz zz zz zz zz zz=>false) (fun zz zz zz zz zz zz zz zz zz zz=>false) (fun zz zz zz zz zz zz zz zz zz zz zz=>false) (fun zz zz=>false) (fun zz zz=>false) (fun zz zz zz=>false) (fun zz zz zz zz zz zz zz=>false) (fun zz zz zz zz=>false) (fun zz zz zz zz zz=>false) (fun zz zz zz zz zz=>false) (fun zz zz zz zz zz=>false) (fun zz zz zz zz=>false) (fun c a b zz=>k c a b) (fun zz zz zz=>false) (fun zz zz zz=>false) (fun zz zz zz=>false) (fun zz zz zz=>false) (fun zz zz zz zz zz=>false) (fun zz zz zz zz zz=>false) (fun zz zz zz=>false) (fun zz zz=>false) (fun zz zz zz zz=>false) (fun zz zz=>false) (fun zz zz=>false) (fun zz zz=>false) (fun zz=>false) (fun zz=>false) (fun zz=>false)
noncomputable def Al(e:Stmt)(k:(Expr)→(List Stmt)→(List Stmt)→Bool):Bool:= @Stmt.casesOn (fun zz=>Bool) e (fun zz zz zz zz zz zz zz zz zz zz=>false) (fun zz zz zz zz zz zz zz zz zz zz=>false) (fun zz zz zz zz zz zz zz zz zz zz zz=>false) (fun zz zz=>false) (fun zz zz=>false) (fun zz zz zz=>false) (fun zz zz zz zz zz zz zz=>false) (fun zz zz zz zz=>false) (fun zz zz zz zz zz=>false) (fun zz zz zz zz zz=>false) (fun zz zz zz zz zz=>false) (fun c a b zz=>k c a b) (fun zz zz zz zz=>false) (fun zz zz zz=>false) (fun zz zz zz=>false) (fun zz zz zz=>false) (fun zz zz zz=>false) (fun zz zz zz zz zz=>false) (fun zz zz zz zz zz=>false) (fun zz zz zz=>false) (fun zz zz=>false) (fun zz zz zz zz=>false) (fun zz zz=>false) (fun zz zz=>false) (fun zz zz=>false) (fun zz=>false) (fun zz=>false) (fun zz=>false)
noncomputable def wu(e:Stmt)(k:(Expr)→(Expr)→(List Stmt)→(List Stmt)→Bool):Bool:= @Stmt.casesOn (fun zz=>Bool) e (fun zz zz zz zz zz zz zz zz zz zz=>false) (fun zz zz zz zz zz zz zz zz zz zz=>false) (fun zz zz zz zz zz zz zz zz zz zz zz=>false) (fun zz zz=>false) (fun zz zz=>false) (fun zz zz zz=>false) (fun zz zz zz zz zz zz zz=>false) (fun zz zz zz zz=>false) (fun zz zz zz zz zz=>false) (fun t it a b zz=>k t it a b) (fun zz zz zz zz zz=>false) (fun zz zz zz zz=>false) (fun zz zz zz zz=>false) (fun zz zz zz=>false) (fun zz zz zz=>false) (fun zz zz zz=>false) (fun zz zz zz=>false) (fun zz zz zz zz zz=>false) (fun zz zz zz zz zz=>false) (fun zz zz zz=>false) (fun zz zz=>false) (fun zz zz zz zz=>false) (fun zz zz=>false) (fun zz zz=>false) (fun zz zz=>false) (fun zz=>false) (fun zz=>false) (fun zz=>false)
noncomputable def Am(e:Stmt)(k:(Pos)→Bool):Bool:= @Stmt.casesOn (fun zz=>Bool) e (fun zz zz zz zz zz zz zz zz zz zz=>false) (fun zz zz zz zz zz zz zz zz zz zz=>false) (fun zz zz zz zz zz zz zz zz zz zz zz=>false) (fun zz zz=>false) (fun zz zz=>false) (fun zz zz zz=>false) (fun zz zz zz zz zz zz zz=>false) (fun zz zz zz zz=>false) (fun zz zz zz zz zz=>false) (fun zz zz zz zz zz=>false) (fun zz zz zz zz zz=>false) (fun zz zz zz zz=>false) (fun zz zz zz zz=>false) (fun zz zz zz=>false) (fun zz zz zz=>false) (fun zz zz zz=>false) (fun zz zz zz=>false) (fun zz zz zz zz zz=>false) (fun zz zz zz zz zz=>false) (fun zz zz zz=>false) (fun zz zz=>false) (fun zz zz zz zz=>false) (fun zz zz=>false) (fun zz zz=>false) (fun zz zz=>false) (fun zz=>false) (fun zz=>false) (fun p=>k p)
noncomputable def onRaise(e:Stmt)(k:(Option Expr)→(Option Expr)→Bool):Bool:= @Stmt.casesOn (fun zz=>Bool) e (fun zz zz zz zz zz zz zz zz zz zz=>false) (fun zz zz zz zz zz zz zz zz zz zz=>false) (fun zz zz zz zz zz zz zz zz zz zz zz=>false) (fun zz zz=>false) (fun zz zz=>false) (fun zz zz zz=>false) (fun zz zz zz zz zz zz zz=>false) (fun zz zz zz zz=>false) (fun zz zz zz zz zz=>false) (fun zz zz zz zz zz=>false) (fun zz zz zz zz zz=>false) (fun zz zz zz zz=>false) (fun zz zz zz zz=>false) (fun zz zz zz=>false) (fun zz zz zz=>false) (fun zz zz zz=>false) (fun e c zz=>k e c) (fun zz zz zz zz zz=>false) (fun zz zz zz zz zz=>false) (fun zz zz zz=>false) (fun zz zz=>false) (fun zz zz zz zz=>false) (fun zz zz=>false) (fun zz zz=>false) (fun zz zz=>false) (fun zz=>false) (fun zz=>false) (fun zz=>false)
noncomputable def ww(e:Stmt)(k:(List Stmt)→(List ExceptHandler)→(List Stmt)→(List Stmt)→Bool):Bool:= @Stmt.casesOn (fun zz=>Bool) e (fun zz zz zz zz zz zz zz zz zz zz=>false) (fun zz zz zz zz zz zz zz zz zz zz=>false) (fun zz zz zz zz zz zz zz zz zz zz zz=>false) (fun zz zz=>false) (fun zz zz=>false) (fun zz zz zz=>false) (fun zz zz zz zz zz zz zz=>false) (fun zz zz zz zz=>false) (fun zz zz zz zz zz=>false) (fun zz zz zz zz zz=>false) (fun zz zz zz zz zz=>false) (fun zz zz zz zz=>false) (fun zz zz zz zz=>false) (fun zz zz zz=>false) (fun zz zz zz=>false) (fun zz zz zz=>false) (fun zz zz zz=>false) (fun a hs b fin zz=>k a hs b fin) (fun zz zz zz zz zz=>false) (fun zz zz zz=>false) (fun zz zz=>false) (fun zz zz zz zz=>false) (fun zz zz=>false) (fun zz zz=>false) (fun zz zz=>false) (fun zz=>false) (fun zz=>false) (fun zz=>false)
abbrev dK:=List (String×Value)
noncomputable def jR(g:dK):String→Option Value:=fun x=>g.lookup x
noncomputable def wy(id:Str):Bool:=id==("__debug__":Str)
noncomputable def pZ(g:dK)(sc:SC)(id:Str)(v:Value):Bool:=gA (g.find? fun p=>nm p.1==id) fun p=>g.lookup p.1==some v && (sc.lookup id==some .globalImplicit && !wy id)
noncomputable def mj(sc:SC)(x:String):Bool:=sc.lookup (nm x)==some .local || sc.lookup (nm x)==some .cell
noncomputable def ik(sc:SC)(x:String):Bool:=sc.lookup (nm x)==some .local
noncomputable def An(k:Option Expr)(v:V):Bool:=gA k fun e=>v7 e fun c=>match c with
 | .str s=>v.same (.str s.cps.toList)
 | _=>false
noncomputable def Ao(g:dK)(sc:SC)(e:Expr)(v:V):Bool:=dJ e fun id=>gA (lY v) fun u=>pZ g sc id u
noncomputable def wz(sc:SC)(scope:Scope)(x:String):Bool:=
 scope.kind== .function && (scope.names.lookup (nm x)==some .local && (scope.names.all (fun y=>y.2 != .local || y.1==nm x || (y.1==nm ".0" && scope.names.lookup y.1==some .local)) && (scope.names.all (fun y=>y.2 != .cell) && scope.names.all (fun y=>y.2 != .free || sc.lookup y.1==some .cell))))
noncomputable def cV:Const→Option V
 | .none=>some .none
 | .bool b=>some (.bool b)
 | .int i=>some (.int i)
 | .str s=>some (.str s.cps.toList)
 | _=>none
abbrev ju:=SC→Expr→X→Bool
noncomputable def wA(g:dK)(rec:ju)(sc:SC)(e:Expr)(rng:Bool)(x:X):Bool:=match rng with
 | true=>sV e fun f as kw zz=>dJ f fun id=>kw.isEmpty && (fU as fun a=>id==nm "range" && (sc.lookup id==some .globalImplicit && (g.lookup "range"==some (.type "range") && (fQ a && rec sc a x))))
 | false=>rec sc e x
noncomputable def wB(rec:ju)(sc:SC)(e:Option Expr)(x:X):Bool:=match e with
 | some e=>rec sc e x
 | none=>match x with
  | .k v=>isNone v
  | _=>false
noncomputable def my(rec:ju)(sc:SC):List Expr→List X→Bool:=dY fun e x=>fQ e && rec sc e x
noncomputable def qb(g:dK)(rec:ju)(sc:SC)(e:Expr)(xe:X)(y:String)(rng:Bool)(xi:X)(xs:List X):Bool:=Ah e fun elt gs scope=>fU gs fun c=>dJ c.target fun id=>
 c.is_async==0 && (id==nm y && (wz sc scope y && (gq c.iter && (wA g rec sc c.iter rng xi && (my rec (cZ sc scope.names) c.ifs xs && rec (cZ sc scope.names) elt xe)))))
noncomputable def Aq(g:dK)(rec:ju)(sc:SC)(e:Expr)(x:X):Bool:=match x with
 | .k v=>match lY v with
  | some u=>dJ e fun id=>pZ g sc id u
  | none=>v7 e fun c=>gA (cV c) fun u=>V.sameF u v
 | .loc y=>dJ e fun id=>id==nm y && (mj sc y && (!wy id && y !=".0"))
 | .attr x' m=>pY e fun o m' zz=>m'==nm m && (pW o && rec sc o x')
 | .call xf xs=>sV e fun f as kw zz=>kw.isEmpty && (z9 f && (rec sc f xf && my rec sc as xs))
 | .meth xo m xs=>sV e fun f as kw p=>pY f fun o m' ap=>kw.isEmpty && (m'==nm m && (pW o && (Nat.blt as.length 30 && ((ap.endLine==p.line) && (rec sc o xo && my rec sc as xs)))))
 | .bin o xa xb=>Ab e fun a op b=>jt op==some o && (rec sc a xa && rec sc b xb)
 | .not x'=>v8 e fun op a=>op== .Not && rec sc a x'
 | .neg x'=>v8 e fun op a=>op== .USub && rec sc a x'
 | .bop b xs=>Ac e fun op es=>(op== .And)==b && my rec sc es xs
 | .cmp xa c xb=>v9 e fun a ops bs=>fU ops fun op=>fU bs fun b=>jQ op==c && (gq b && (rec sc a xa && rec sc b xb))
 | .cmp2 xa c xb c' xc=>v9 e fun a ops bs=>match ops with
  | []=>false
  | op::ops=>fU ops fun op'=>match bs with
   | []=>false
   | b::bs=>fU bs fun d=>jQ op==c && (jQ op'==c' && (gq d && (rec sc a xa && (rec sc b xb && rec sc d xc))))
 | .ite xc xa xb=>Ad e fun c a b=>rec sc c xc && (rec sc a xa && rec sc b xb)
 | .list xs=>Ae e fun es=>my rec sc es xs
 | .tup xs=>lr e fun es=>my rec sc es xs
 | .dict ks vs=>Af e fun ks' es=>dY An ks' ks && dY (Ao g sc) es vs
 | .sub xa xi=>nW e fun a i=>nT i && (rec sc a xa && rec sc i xi)
 | .slice xa xl xh=>nW e fun a i=>Ag i fun lo hi st=>st.isNone && (rec sc a xa && (wB rec sc lo xl && wB rec sc hi xh))
 | .comp xe y rng xi xs=>qb g rec sc e xe y rng xi xs
noncomputable def wC(g:dK):Nat→ju
 | 0=>fun zz zz zz=>false
 | n+1=>Aq g (wC g n)
noncomputable def sW(rec:ju)(sc:SC)(e:Expr)(t:Tgt):Bool:=match t with
 | .name x=>dJ e fun id=>id==nm x && mj sc x
 | .attr xo m=>pY e fun o m' zz=>m'==nm m && rec sc o xo
 | .sub xo xi=>nW e fun o i=>rec sc o xo && rec sc i xi
 | .names xs=>lr e fun es=>dY (fun e x=>dJ e fun id=>id==nm x && mj sc x) es xs
noncomputable def mz:List String→Bool
 | []=>true
 | x::r=> !r.contains x && mz r
noncomputable def nY:List Str→List String→Bool:=dY fun s x=>s==nm x
noncomputable def sX(x:String):Bool:= !wy (nm x)
noncomputable def KR(sc:SC)(i:Option Str)(name:Option String):Bool:=i==name.map nm && match name with
 | none=>true
 | some m=>ik sc m && m !=".0"
abbrev wD:=List Stmt→List St→Bool
noncomputable def Ar(g:dK)(rec:ju)(recB:wD)(sc:SC)(st:Stmt)(x:St):Bool:=match x with
 | .expr xe=>Ai st fun e=>v5 e && rec sc e xe
 | .assign tt xe=>wi st fun ts e=>fU ts fun t=>gA (pX sc t e) fun o=>match o with
  | none=>sU e && (fQ t && match nU sc e t with
   | true=>match tt with
    | .name y=>match xe with
     | .comp xe' x rng xi xs=>dJ t fun id=>id==nm y && (ik sc y && qb g rec sc e xe' x rng xi xs)
     | _=>false
    | _=>false
   | false=>sW rec sc t tt && rec sc e xe)
  | some ns=>match tt with
   | .names xs=>lr t fun zz=>lr e fun zz=>nY ns xs && (mz xs && (xs.all (ik sc) && rec sc e xe))
   | _=>false
 | .augName y op xe=>wj st fun t o e=>dJ t fun id=>id==nm y && (mj sc y && (y !=".0" && (jt o==some op && rec sc e xe)))
 | .augAttr xb m op xe=>wj st fun t o e=>pY t fun b m' zz=>m'==nm m && (jt o==some op && (rec sc b xb && rec sc e xe))
 | .ret xe=>Aj st fun e=>match e with
  | some e=>rec sc e xe
  | none=>match xe with
   | .k v=>isNone v
   | _=>false
 | .cond xc xa xb=>Ak st fun c a b=>rec sc c xc && (recB a xa && recB b xb)
 | .loop xc xb=>Al st fun c a b=>b.isEmpty && (rec sc c xc && recB a xb)
 | .each tt rng xi xb=>wu st fun t it a b=>b.isEmpty && (gq it && (wA g rec sc it rng xi && (sW rec sc t tt && recB a xb)))
 | .cont=>Am st fun zz=>true
 | .copyAll x a b=>wu st fun t it bd els=>dJ t fun ix=>dJ it fun ib=>fU bd fun s=>wi s fun ts v=>fU ts fun tt=>nW tt fun a1 i1=>dJ a1 fun ia=>dJ i1 fun ix2=>nW v fun b2 i2=>dJ b2 fun ib2=>dJ i2 fun ix3=>
   els.isEmpty && (ix==nm x && (ib==nm b && (ia==nm a && (ix2==nm x && (ib2==nm b && (ix3==nm x && (ik sc x && (ik sc a && (ik sc b && (x !=".0" && (a !=".0" && (b !=".0" && (sX x && (sX a && sX b))))))))))))))
 | .raise xe=>onRaise st fun e c=>gA e fun e=>c.isNone && rec sc e xe
 | .tryExc xb cls name xh=>ww st fun bd hs els fin=>els.isEmpty && (fin.isEmpty && (fU hs fun h=>match h with
   | .ExceptHandler ty i hb _=>gA ty fun e=>dJ e fun id=>pZ g sc id (.ref cls) && (!hb.isEmpty && (KR sc i name && (recB bd xb && recB hb xh)))))
 | .tryFin xb xf=>ww st fun bd hs els fin=>hs.isEmpty && (els.isEmpty && (!fin.isEmpty && (recB bd xb && recB fin xf)))
noncomputable def sY(g:dK):Nat→SC→wD
 | 0,_=>fun zz zz=>false
 | n+1,sc=>dY (Ar g (wC g 60) (sY g n sc) sc)
noncomputable def KY(o:Obj):Option (List Value):=match o.data with
 | .seq vs _=>dC (o.cls== .type "tuple" && (o.dict.isNone && o.slots.isEmpty)) (some vs.toList)
 | _=>none
noncomputable def Av(K:Frag)(v:Value):Option (List Value):=match v with
 | .ref a=>(K.lookup a).bind KY
 | _=>none
noncomputable def sZ:Value→Option V
 | .none=>some .none
 | .bool b=>some (.bool b)
 | .int i _=>some (.int i)
 | .str t _=>some (.str t.cps.toList)
 | _=>none
noncomputable def nZ(K:Frag):Nat→V→Value→Bool
 | 0,_,_=>false
 | n+1,x,v=>match sZ v with
  | some u=>V.sameF u x
  | none=>(jm x).any fun xs=>(Av K v).any fun vs=>dY (nZ K n) xs vs
noncomputable def Aw(K:Frag)(d:Value)(xs:List V):Bool:=match d with
 | .none=>xs.isEmpty
 | .ref t=>gA (K.lookup t) fun o=>match o.data with
  | .seq items _=>dY (nZ K 9) xs items.toList
  | _=>false
 | _=>false
noncomputable def Ax(o:Option Obj)(k:FuncData→Bool):Bool:=gA o fun o=>match o.data with
 | .func fd=>k fd
 | _=>false
noncomputable def Ay(b:FuncBody)(k:List Stmt→Bool):Bool:=match b with
 | .stmts body=>k body
 | _=>false
noncomputable def qd{α:Type}(l:List (Nat×α))(a:Nat):Option α:=List.rec (motive:=fun zz=>Option α) none (fun p zz ih=>Bool.rec (motive:=fun zz=>Option α) ih (some p.2) (Nat.beq a p.1)) l
theorem wF{α:Type}{l:List (Nat×α)}{a:Nat}:qd l a=l.lookup a:=by
 induction l with
 | nil=>rfl
 | cons p r ih=>
  rw [List.lookup_cons]
  show Bool.rec (motive:=fun zz=>Option α) (qd r a) (some p.2) (Nat.beq a p.1)=_
  induction h:Nat.beq a p.1 using Bool.casesOn with
  | true=>rw [show (a==p.1)=true from beq_iff_eq.mpr (Nat.eq_of_beq_eq_true h)]
  | false=>rw [show (a==p.1)=false from beq_eq_false_iff_ne.mpr (Nat.ne_of_beq_eq_false h)];exact ih
noncomputable def Az(o:Option Obj)(q:Str):Bool:=match o with
 | some ⟨_,_, .fields vs,_⟩=>(match vs.toList with | _:: .str n _::_=>n==q | _=>false)
 | _=>false
noncomputable def Ba(K:Frag)(cd:Value)(q:Str):Bool:=match cd with
 | .ref c=>Az (qd K c) q
 | _=>false
theorem KZ{K:Frag}{cd:Value}{q:Str}:Ba K cd q=codeIn K cd q:=by
 induction cd using PySem.Value.casesOn with
 | ref c=>
  show Az (qd K c) q=_
  rw [wF];rfl
 | _=>rfl
theorem Bb{o:Option Obj}{k:FuncData→Bool}{P:Prop}(h:Ax o k=true)(f:∀ob fd,o=some ob→ob.data= .func fd→k fd=true→P):P:=by
 induction o using Option.casesOn with
 | none=>exact bz h
 | some ob=>
  obtain ⟨c,d,dt,sl⟩:=ob
  induction dt using PySem.Data.casesOn with
  | func fd=>exact f _ fd rfl rfl h
  | _=>exact bz h
noncomputable def mC(K:Frag)(g:dK)(a:Addr)(fn:Fn):Bool:=Ax (qd K a) fun fd=> !fd.scope.isCoroutine && (!fd.scope.isGenerator && (fd.scope.kind== .function && (fd.globals==mainGlobals && (fd.builtins==builtinsNs && (fd.closure.isEmpty && (Ba K fd.code fd.qualname &&
  (fd.params.posonlyargs.isEmpty && (fd.params.kwonlyargs.isEmpty && (fd.params.vararg.isNone && (fd.params.kwarg.isNone && (nY (fd.params.args.map (·.arg)) fn.params && (mz fn.params && (fn.params.all (mj fd.scope.names) &&
  (Nat.ble fn.dflt.length fn.params.length && (Aw K fd.defaults fn.dflt && Ay fd.body fun body=>sY g 30 fd.scope.names body fn.body)))))))))))))))
theorem K1{K:Frag}{g:dK}{a:Addr}{fn:Fn}(h:mC K g a fn=true):keepIn K (.ref a)=true:=
 Bb h fun ob fd ho hd zz=>by
  obtain ⟨c,d,dt,sl⟩:=ob
  subst hd
  have ho:=wF.symm.trans ho
  unfold keepIn
  dsimp only
  rw [ho]
noncomputable def mD(a:Addr):List Value:= [.ref a, .type "Exception", .type "BaseException", .type "object"]
noncomputable def Bc(o:Option CFound)(f:Nat):Bool:=gA o fun x=>match x with
 | .val v=>v== .ref f
 | .get _ _ _ _=>false
noncomputable def K3(K:Frag)(a:Addr)(p:String×Nat):Bool:=findIn K (.ref a) (nm p.1)==some (some (.ref p.2)) && (typeIn K (.ref p.2)==some (.type "function") && Bc (findCls K (.ref a) (.type "type") (nm p.1)) p.2)
noncomputable def jw(sl:Array (Option Value))(i:Nat):Option Value:=(sl.toList[i]?).getD none
noncomputable def wG(sl:Array (Option Value)):Bool:=sl.toList== [jw sl 0,jw sl 1,jw sl 2,jw sl 3,some (.builtin "Exception.__new__"),jw sl 5]
noncomputable def Bd(o:Option Obj)(k:ClassData→Array (Option Value)→Bool):Bool:=gA o fun ob=>match ob.data with
 | .cls cd=>ob.cls== .type "type" && k cd ob.slots
 | _=>false
noncomputable def K4(K:Frag)(a:Addr)(b:Bool)(cd:ClassData)(sl:Array (Option Value)):Bool:=match b with
 | true=>cd.mro==mD a && (!cd.hasDel && wG sl)
 | false=>onlyObject cd.mro && (!cd.mro.isEmpty && makesIn K a)
noncomputable def s6(K:Frag)(a:Addr)(c:Cls):Bool:=Bd (K.lookup a) fun cd sl=>
  cd.hasDict && (K4 K a c.isExc cd sl &&
  (findIn K (.ref a) "__getattribute__"==some (some (.builtin (if c.isExc then "BaseException.__getattribute__" else "object.__getattribute__"))) && (findIn K (.ref a) "__getattr__"==some none &&
  (findIn K (.ref a) "__setattr__"==some (some (.builtin "object.__setattr__")) && (c.fields.all (fun n=>findIn K (.ref a) (nm n)==some none) && (c.meths.all (K3 K a) &&
  (specialIn K (.ref a) "__getattribute__"==some (some (.builtin "type.__getattribute__")) && (readsIn K a (.type "type") && (Nat.ble c.fields.length 1000 &&
  (findIn K (.ref a) "__init__"==some (some (.ref c.init)) && (typeIn K (.ref c.init)==some (.type "function") && isNotIn K "str" a)))))))))))
end Mine
namespace Mine
noncomputable def K5:Fn:=⟨["self","why"],[],
  [.expr (.meth (.k (.con (.type "Exception"))) "__init__" [(.loc "self"),(.loc "why")]),
  .assign (.attr (.loc "self") "why") (.loc "why")]⟩
noncomputable def Be:Fn:=⟨["self","code","value","errorcode","level","ret"],[(.tup [(.str [78,79,78,69])]),(.int 0),(.int 0)],
  [.expr (.meth (.k (.con (.type "Exception"))) "__init__" [(.loc "self"),(.loc "value")]),
  .assign (.attr (.loc "self") "code") (.loc "code"),
  .assign (.attr (.loc "self") "value") (.loc "value"),
  .assign (.attr (.loc "self") "errorcode") (.loc "errorcode"),
  .assign (.attr (.loc "self") "level") (.loc "level"),
  .assign (.attr (.loc "self") "ret") (.loc "ret"),
  .assign (.attr (.loc "self") "info") (.k (.str [])),
  .assign (.attr (.loc "self") "is_noted") (.k (.bool false)),
  .assign (.attr (.loc "self") "line") (.k (.int 0)),
  .assign (.attr (.loc "self") "extra") (.list [])]⟩
noncomputable def Bf:Fn:=⟨["self","script","back","is_proc","label"],[.none,(.bool false),(.str [])],
  [.assign (.attr (.loc "self") "script") (.loc "script"),
  .assign (.attr (.loc "self") "back") (.loc "back"),
  .assign (.attr (.loc "self") "is_proc") (.loc "is_proc"),
  .assign (.attr (.loc "self") "label") (.loc "label")]⟩
noncomputable def K6:Fn:=⟨["self","kind","words"],[],
  [.assign (.attr (.loc "self") "kind") (.loc "kind"),
  .assign (.attr (.loc "self") "words") (.loc "words")]⟩
noncomputable def K7:Fn:=⟨["text","errorcode"],[(.tup [(.str [78,79,78,69])])],
  [.ret (.call (.k (.con (.ref 84))) [(.k (.int 1)),(.loc "text"),(.loc "errorcode")])]⟩
noncomputable def Bg:Fn:=⟨["text","most"],[],
  [.cond (.cmp (.call (.k (.con (.builtin "len"))) [(.loc "text")]) .gt (.loc "most"))
   [.ret (.bin .add (.slice (.loc "text") (.k .none) (.loc "most")) (.k (.str [46,46,46])))]
   [],
  .ret (.loc "text")]⟩
noncomputable def Bh:Fn:=⟨["raised","source"],[],
  [.cond (.cmp (.attr (.loc "raised") "code") .ne (.k (.int 1)))
   [.ret (.k .none)]
   [],
  .cond (.cmp (.attr (.loc "raised") "info") .eq (.k (.str [])))
   [.assign (.attr (.loc "raised") "info") (.bin .add (.bin .add (.bin .add (.attr (.loc "raised") "value") (.k (.str [10,32,32,32,32,119,104,105,108,101,32,101,120,101,99,117,116,105,110,103,10,34]))) (.call (.k (.con (.ref 146))) [(.loc "source"),(.k (.int 150))])) (.k (.str [34])))]
   [.cond (.attr (.loc "raised") "is_noted")
     [.assign (.attr (.loc "raised") "info") (.bin .add (.bin .add (.bin .add (.attr (.loc "raised") "info") (.k (.str [10,32,32,32,32,105,110,118,111,107,101,100,32,102,114,111,109,32,119,105,116,104,105,110,10,34]))) (.call (.k (.con (.ref 146))) [(.loc "source"),(.k (.int 150))])) (.k (.str [34])))]
     []],
  .assign (.attr (.loc "raised") "is_noted") (.k (.bool true))]⟩
noncomputable def K8:Fn:=⟨["raised","text"],[],
  [.cond (.cmp (.attr (.loc "raised") "code") .ne (.k (.int 1)))
   [.ret (.k .none)]
   [],
  .cond (.cmp (.attr (.loc "raised") "info") .eq (.k (.str [])))
   [.assign (.attr (.loc "raised") "info") (.attr (.loc "raised") "value")]
   [],
  .assign (.attr (.loc "raised") "info") (.bin .add (.bin .add (.attr (.loc "raised") "info") (.k (.str [10,32,32,32,32]))) (.loc "text")),
  .assign (.attr (.loc "raised") "is_noted") (.k (.bool true))]⟩
noncomputable def K9:Fn:=⟨["raised"],[],
  [.cond (.cmp (.attr (.loc "raised") "ret") .eq (.k (.int 0)))
   [.ret (.attr (.loc "raised") "value")]
   [],
  .assign (.attr (.loc "raised") "code") (.attr (.loc "raised") "ret"),
  .assign (.attr (.loc "raised") "level") (.ite (.cmp (.attr (.loc "raised") "ret") .eq (.k (.int 2))) (.k (.int 1)) (.k (.int 0))),
  .assign (.attr (.loc "raised") "ret") (.k (.int 0)),
  .assign (.attr (.loc "raised") "is_noted") (.k (.bool true)),
  .raise (.loc "raised")]⟩
noncomputable def La:Fn:=⟨["nest","raised"],[],
  [.cond (.cmp (.attr (.loc "raised") "code") .eq (.k (.int 2)))
   [.cond (.cmp (.attr (.loc "raised") "level") .gt (.k (.int 1)))
     [.assign (.attr (.loc "raised") "level") (.bin .sub (.attr (.loc "raised") "level") (.k (.int 1))),
     .raise (.loc "raised")]
     [],
    .ret (.call (.k (.con (.ref 167))) [(.loc "raised")])]
   [],
  .assign (.name "fault") (.loc "raised"),
  .cond (.cmp (.attr (.loc "raised") "code") .isin (.tup [(.k (.int 3)),(.k (.int 4))]))
   [.assign (.name "word") (.ite (.cmp (.attr (.loc "raised") "code") .eq (.k (.int 3))) (.k (.str [98,114,101,97,107])) (.k (.str [99,111,110,116,105,110,117,101]))),
    .assign (.name "fault") (.call (.k (.con (.ref 139))) [(.bin .add (.bin .add (.k (.str [105,110,118,111,107,101,100,32,34])) (.loc "word")) (.k (.str [34,32,111,117,116,115,105,100,101,32,111,102,32,97,32,108,111,111,112]))),(.tup [(.k (.str [84,67,76])),(.k (.str [82,69,83,85,76,84])),(.k (.str [85,78,69,88,80,69,67,84,69,68]))])]),
    .assign (.attr (.loc "fault") "line") (.attr (.loc "raised") "line")]
   [],
  .expr (.call (.k (.con (.ref 160))) [(.loc "fault"),(.bin .add (.bin .add (.bin .add (.bin .add (.k (.str [40,112,114,111,99,101,100,117,114,101,32,34])) (.call (.k (.con (.ref 146))) [(.attr (.loc "nest") "label"),(.k (.int 60))])) (.k (.str [34,32,108,105,110,101,32]))) (.call (.k (.con (.type "str"))) [(.attr (.loc "fault") "line")])) (.k (.str [41])))]),
  .assign (.attr (.loc "fault") "line") (.k (.int 0)),
  .raise (.loc "fault")]⟩
noncomputable def Bj:Fn:=⟨["self","code","nest"],[],
  [.assign (.attr (.loc "self") "code") (.loc "code"),
  .assign (.attr (.loc "self") "nest") (.loc "nest"),
  .assign (.attr (.loc "self") "pc") (.k (.int 0)),
  .assign (.attr (.loc "self") "stack") (.list []),
  .assign (.attr (.loc "self") "slots") (.bin .mul (.list [(.k .none)]) (.call (.k (.con (.builtin "len"))) [(.attr (.loc "code") "names")])),
  .assign (.attr (.loc "self") "each") (.dict [] []),
  .assign (.attr (.loc "self") "caught") (.tup [(.k (.int 0)),(.k (.str [])),(.k .none)])]⟩
noncomputable def wH:Fn:=⟨["ranges","place","code"],[],
  [.each (.name "held") false (.loc "ranges")
   [.assign (.names ["kind","first","behind","to_break","to_continue","depth"]) (.loc "held"),
    .cond (.bop true [(.cmp (.loc "first") .le (.loc "place")),(.cmp (.loc "place") .lt (.loc "behind"))])
     [.cond (.bop false [(.cmp (.loc "kind") .eq (.k (.str [99,97,116,99,104]))),(.cmp (.loc "code") .eq (.k (.int 3))),(.bop true [(.cmp (.loc "code") .eq (.k (.int 4))),(.cmp (.loc "to_continue") .isNot (.k .none))])])
      [.ret (.loc "held")]
      []]
     []],
  .ret (.k .none)]⟩
noncomputable def wI:Fn:=⟨["act","raised"],[],
  [.assign (.name "place") (.bin .sub (.attr (.loc "act") "pc") (.k (.int 1))),
  .each (.names ["first","behind","text"]) false (.attr (.attr (.loc "act") "code") "sources")
   [.cond (.bop true [(.cmp (.loc "first") .le (.loc "place")),(.cmp (.loc "place") .lt (.loc "behind"))])
     [.expr (.call (.k (.con (.ref 153))) [(.loc "raised"),(.loc "text")]),
     .ret (.k .none)]
     []]]⟩
noncomputable def Bk:Fn:=⟨["self","host","ops","maker"],[],
  [.assign (.attr (.loc "self") "host") (.loc "host"),
  .assign (.attr (.loc "self") "ops") (.loc "ops"),
  .assign (.attr (.loc "self") "maker") (.loc "maker"),
  .assign (.attr (.loc "self") "acts") (.list []),
  .assign (.attr (.loc "self") "book") (.dict [] []),
  .assign (.attr (.loc "self") "pause") (.k .none),
  .assign (.attr (.loc "self") "steps") (.k (.int 0)),
  .assign (.attr (.loc "self") "text") (.k (.str []))]⟩
noncomputable def Bl:Fn:=⟨["self","text","is_slots"],[],
  [.assign (.name "key") (.tup [(.loc "text"),(.loc "is_slots"),(.meth (.attr (.loc "self") "host") "where" [])]),
  .assign (.name "code") (.meth (.attr (.loc "self") "book") "get" [(.loc "key")]),
  .cond (.bop false [(.cmp (.loc "code") .is (.k .none)),(.cmp (.attr (.loc "code") "epoch") .ne (.attr (.attr (.loc "self") "host") "epoch"))])
   [.assign (.name "code") (.meth (.loc "self") "maker" [(.attr (.loc "self") "host"),(.loc "text"),(.loc "is_slots")]),
    .assign (.sub (.attr (.loc "self") "book") (.loc "key")) (.loc "code")]
   [],
  .ret (.loc "code")]⟩
noncomputable def Bm:Fn:=⟨["self","nest"],[],
  [.cond (.cmp (.call (.k (.con (.builtin "len"))) [(.attr (.loc "self") "acts")]) .ge (.attr (.attr (.loc "self") "host") "limit"))
   [.expr (.meth (.attr (.loc "self") "host") "leave" [(.loc "nest")]),
    .raise (.call (.k (.con (.ref 139))) [(.k (.str [116,111,111,32,109,97,110,121,32,110,101,115,116,101,100,32,101,118,97,108,117,97,116,105,111,110,115,32,40,105,110,102,105,110,105,116,101,32,108,111,111,112,63,41])),(.tup [(.k (.str [84,67,76])),(.k (.str [76,73,77,73,84])),(.k (.str [83,84,65,67,75]))])])]
   [],
  .expr (.meth (.attr (.loc "self") "acts") "append" [(.call (.k (.con (.ref 191))) [(.meth (.loc "self") "code_for" [(.attr (.loc "nest") "script"),(.attr (.loc "nest") "is_proc")]),(.loc "nest")])])]⟩
noncomputable def Bo:Fn:=⟨["self"],[],
  [.expr (.meth (.attr (.loc "self") "host") "leave" [(.attr (.meth (.attr (.loc "self") "acts") "pop" []) "nest")])]⟩
noncomputable def wJ:Fn:=⟨["self","text"],[],
  [.assign (.attr (.loc "self") "pause") (.k .none),
  .cond (.cmp (.call (.k (.con (.builtin "len"))) [(.attr (.loc "self") "acts")]) .gt (.k (.int 0)))
   [.expr (.meth (.attr (.sub (.attr (.loc "self") "acts") (.neg (.k (.int 1)))) "stack") "append" [(.loc "text")])]
   [.assign (.attr (.loc "self") "text") (.loc "text")]]⟩
noncomputable def Bp:Fn:=⟨["self","text"],[],
  [.expr (.meth (.loc "self") "drop" []),
  .expr (.meth (.loc "self") "give" [(.loc "text")])]⟩
noncomputable def wK:Fn:=⟨["self","result"],[],
  [.cond (.call (.k (.con (.builtin "isinstance"))) [(.loc "result"),(.k (.con (.ref 105)))])
   [.expr (.meth (.loc "self") "enter" [(.loc "result")])]
   [.cond (.call (.k (.con (.builtin "isinstance"))) [(.loc "result"),(.k (.con (.ref 126)))])
     [.assign (.attr (.loc "self") "pause") (.loc "result"),
     .assign (.name "coro") (.attr (.attr (.loc "self") "host") "coroutine"),
     .cond (.bop false [(.cmp (.loc "coro") .is (.k .none)),(.cmp (.attr (.attr (.loc "coro") "machine") "pause") .is (.k .none))])
      [.assign (.attr (.loc "self") "pause") (.k .none),
       .raise (.call (.k (.con (.ref 139))) [(.k (.str [99,97,110,110,111,116,32,121,105,101,108,100,58,32,67,32,115,116,97,99,107,32,98,117,115,121])),(.tup [(.k (.str [84,67,76])),(.k (.str [67,79,82,79,85,84,73,78,69])),(.k (.str [67,65,78,84,95,89,73,69,76,68]))])])]
      []]
     [.expr (.meth (.loc "self") "give" [(.loc "result")])]]]⟩
noncomputable def Bq:Fn:=⟨["self","act","held","raised"],[],
  [.assign (.names ["kind","first","behind","to_break","to_continue","depth"]) (.loc "held"),
  .assign (.attr (.loc "act") "stack") (.slice (.attr (.loc "act") "stack") (.k .none) (.loc "depth")),
  .assign (.attr (.loc "act") "pc") (.loc "to_break"),
  .cond (.cmp (.loc "kind") .eq (.k (.str [99,97,116,99,104])))
   [.assign (.attr (.loc "act") "caught") (.tup [(.attr (.loc "raised") "code"),(.attr (.loc "raised") "value"),(.loc "raised")]),
    .cond (.cmp (.k (.str [99,97,117,103,104,116])) .isin (.attr (.loc "self") "ops"))
     [.expr (.call (.sub (.attr (.loc "self") "ops") (.k (.str [99,97,117,103,104,116]))) [(.loc "self"),(.loc "act"),(.k .none),(.k .none)])]
     []]
   [.cond (.cmp (.attr (.loc "raised") "code") .eq (.k (.int 4)))
     [.assign (.attr (.loc "act") "pc") (.loc "to_continue")]
     []]]⟩
noncomputable def s7:Fn:=⟨["self","raised"],[],
  [.loop (.cmp (.call (.k (.con (.builtin "len"))) [(.attr (.loc "self") "acts")]) .gt (.k (.int 0)))
   [.assign (.name "act") (.sub (.attr (.loc "self") "acts") (.neg (.k (.int 1)))),
    .expr (.call (.k (.con (.ref 209))) [(.loc "act"),(.loc "raised")]),
    .assign (.name "held") (.call (.k (.con (.ref 202))) [(.attr (.attr (.loc "act") "code") "ranges"),(.bin .sub (.attr (.loc "act") "pc") (.k (.int 1))),(.attr (.loc "raised") "code")]),
    .cond (.cmp (.loc "held") .isNot (.k .none))
     [.expr (.meth (.loc "self") "go_on" [(.loc "act"),(.loc "held"),(.loc "raised")]),
     .ret (.k .none)]
     [],
    .cond (.attr (.attr (.loc "act") "nest") "is_proc")
     [.tryExc
      [.expr (.meth (.loc "self") "leave" [(.call (.k (.con (.ref 174))) [(.attr (.loc "act") "nest"),(.loc "raised")])]),
       .ret (.k .none)]
      84 (.some "fault")
      [.assign (.name "raised") (.loc "fault")]]
     [],
    .expr (.meth (.loc "self") "drop" [])],
  .raise (.loc "raised")]⟩
noncomputable def wL:Fn:=⟨["self"],[],
  [.assign (.name "act") (.sub (.attr (.loc "self") "acts") (.neg (.k (.int 1)))),
  .cond (.cmp (.attr (.loc "act") "pc") .ge (.call (.k (.con (.builtin "len"))) [(.attr (.attr (.loc "act") "code") "rows")]))
   [.expr (.meth (.loc "self") "leave" [(.ite (.cmp (.call (.k (.con (.builtin "len"))) [(.attr (.loc "act") "stack")]) .gt (.k (.int 0))) (.meth (.attr (.loc "act") "stack") "pop" []) (.k (.str [])))]),
    .ret (.k .none)]
   [],
  .assign (.names ["op","a","b"]) (.sub (.attr (.attr (.loc "act") "code") "rows") (.attr (.loc "act") "pc")),
  .augAttr (.loc "act") "pc" .add (.k (.int 1)),
  .augAttr (.loc "self") "steps" .add (.k (.int 1)),
  .cond (.cmp (.loc "op") .notin (.attr (.loc "self") "ops"))
   [.raise (.call (.k (.con (.ref 51))) [(.bin .add (.k (.str [116,104,101,114,101,32,105,115,32,110,111,32,111,112,32])) (.loc "op"))])]
   [],
  .tryExc
   [.expr (.call (.sub (.attr (.loc "self") "ops") (.loc "op")) [(.loc "self"),(.loc "act"),(.loc "a"),(.loc "b")])]
   84 (.some "raised")
   [.expr (.meth (.loc "self") "unwind" [(.loc "raised")])]]⟩
noncomputable def Br:Fn:=⟨["self"],[],
  [.assign (.name "host") (.attr (.loc "self") "host"),
  .augAttr (.loc "host") "depth" .add (.k (.int 1)),
  .tryFin
   [.cond (.cmp (.attr (.loc "host") "depth") .gt (.attr (.loc "host") "limit"))
     [.expr (.meth (.loc "self") "unwind" [(.call (.k (.con (.ref 139))) [(.k (.str [116,111,111,32,109,97,110,121,32,110,101,115,116,101,100,32,101,118,97,108,117,97,116,105,111,110,115,32,40,105,110,102,105,110,105,116,101,32,108,111,111,112,63,41])),(.tup [(.k (.str [84,67,76])),(.k (.str [76,73,77,73,84])),(.k (.str [83,84,65,67,75]))])])])]
     [],
    .loop (.bop true [(.cmp (.attr (.loc "self") "pause") .is (.k .none)),(.cmp (.call (.k (.con (.builtin "len"))) [(.attr (.loc "self") "acts")]) .gt (.k (.int 0)))])
     [.expr (.meth (.loc "self") "step" [])]]
   [.augAttr (.loc "host") "depth" .sub (.k (.int 1))],
  .cond (.cmp (.attr (.loc "self") "pause") .isNot (.k .none))
   [.ret (.tup [(.k (.str [112,97,117,115,101])),(.attr (.loc "self") "pause")])]
   [],
  .ret (.tup [(.k (.str [100,111,110,101])),(.attr (.loc "self") "text")])]⟩
noncomputable def Bs:Fn:=⟨["machine","code"],[],
  [.assign (.name "frame") (.attr (.attr (.loc "machine") "host") "frame"),
  .assign (.name "acts") (.attr (.loc "machine") "acts"),
  .assign (.attr (.loc "machine") "acts") (.list [(.call (.k (.con (.ref 191))) [(.loc "code"),(.call (.k (.con (.ref 105))) [(.k (.str []))])])]),
  .tryFin
   [.assign (.names ["sort","text"]) (.meth (.loc "machine") "run" [])]
   [.assign (.attr (.loc "machine") "acts") (.loc "acts"),
    .assign (.attr (.loc "machine") "pause") (.k .none),
    .assign (.attr (.attr (.loc "machine") "host") "frame") (.loc "frame")],
  .cond (.cmp (.loc "sort") .ne (.k (.str [100,111,110,101])))
   [.raise (.call (.k (.con (.ref 51))) [(.k (.str [97,32,99,111,100,101,32,116,104,97,116,32,112,97,117,115,101,115,32,105,115,32,110,111,32,99,111,114,111,117,116,105,110,101,39,115]))])]
   [],
  .ret (.loc "text")]⟩
noncomputable def Bt:Fn:=⟨["self","rows","ranges","names","sources","epoch"],[],
  [.assign (.attr (.loc "self") "rows") (.loc "rows"),
  .assign (.attr (.loc "self") "ranges") (.loc "ranges"),
  .assign (.attr (.loc "self") "names") (.loc "names"),
  .assign (.attr (.loc "self") "sources") (.loc "sources"),
  .assign (.attr (.loc "self") "epoch") (.loc "epoch")]⟩
noncomputable def Bu:Fn:=⟨["self"],[],
  [.assign (.attr (.loc "self") "kind") (.k (.str [110,111,110,101])),
  .assign (.attr (.loc "self") "value") (.k (.str [])),
  .assign (.attr (.loc "self") "traces") (.list []),
  .assign (.attr (.loc "self") "is_busy") (.k (.bool false)),
  .assign (.attr (.loc "self") "is_element") (.k (.bool false)),
  .assign (.attr (.loc "self") "writes") (.k (.int 0))]⟩
noncomputable def Bv:Fn:=⟨["self","limit","fuel"],[(.int 40), .none],
  [.assign (.attr (.loc "self") "tools") (.dict [] []),
  .assign (.attr (.loc "self") "inline") (.dict [] []),
  .assign (.attr (.loc "self") "limit") (.loc "limit"),
  .assign (.attr (.loc "self") "fuel") (.loc "fuel"),
  .assign (.attr (.loc "self") "depth") (.k (.int 0)),
  .assign (.attr (.loc "self") "spent") (.k (.int 0)),
  .assign (.attr (.loc "self") "epoch") (.k (.int 0)),
  .assign (.attr (.loc "self") "frame") (.k .none),
  .assign (.attr (.loc "self") "coroutine") (.k .none)]⟩
noncomputable def Lb:Fn:=⟨["self","name"],[],
  [.cond (.cmp (.loc "name") .notin (.attr (.loc "self") "tools"))
   [.raise (.call (.k (.con (.ref 51))) [(.bin .add (.k (.str [116,104,101,32,104,111,115,116,32,108,97,99,107,115,32,116,104,101,32,116,111,111,108,32])) (.loc "name"))])]
   [],
  .ret (.sub (.attr (.loc "self") "tools") (.loc "name"))]⟩
noncomputable def Bw:Fn:=⟨["self"],[],
  [.augAttr (.loc "self") "spent" .add (.k (.int 1)),
  .cond (.bop true [(.cmp (.attr (.loc "self") "fuel") .isNot (.k .none)),(.cmp (.attr (.loc "self") "spent") .gt (.attr (.loc "self") "fuel"))])
   [.raise (.call (.k (.con (.ref 63))) [(.k (.str [116,104,101,32,115,99,114,105,112,116,32,115,112,101,110,116,32,97,108,108,32,105,116,115,32,102,117,101,108]))])]
   []]⟩
noncomputable def Bx:Fn:=⟨["self"],[],
  [.ret (.k (.str [58,58]))]⟩
noncomputable def Ld:Fn:=⟨["self","script"],[],
  [.cond (.cmp (.attr (.loc "self") "depth") .ge (.attr (.loc "self") "limit"))
   [.raise (.call (.k (.con (.ref 139))) [(.k (.str [116,111,111,32,109,97,110,121,32,110,101,115,116,101,100,32,101,118,97,108,117,97,116,105,111,110,115,32,40,105,110,102,105,110,105,116,101,32,108,111,111,112,63,41])),(.tup [(.k (.str [84,67,76])),(.k (.str [76,73,77,73,84])),(.k (.str [83,84,65,67,75]))])])]
   [],
  .assign (.name "runner") (.meth (.loc "self") "tool" [(.k (.str [114,117,110]))]),
  .augAttr (.loc "self") "depth" .add (.k (.int 1)),
  .tryFin
   [.ret (.call (.loc "runner") [(.loc "self"),(.loc "script")])]
   [.augAttr (.loc "self") "depth" .sub (.k (.int 1))]]⟩
noncomputable def Lf:Fn:=⟨["self","script"],[],
  [.expr (.call (.k (.con (.ref 21))) [(.k (.int 0))])]⟩
noncomputable def Lg:Fn:=⟨["self","words"],[],
  [.cond (.not (.loc "words"))
   [.ret (.k (.str []))]
   [],
  .assign (.name "got") (.meth (.loc "self") "begin" [(.loc "words")]),
  .cond (.call (.k (.con (.builtin "isinstance"))) [(.loc "got"),(.k (.con (.ref 105)))])
   [.ret (.meth (.loc "self") "finish" [(.loc "got")])]
   [],
  .cond (.call (.k (.con (.builtin "isinstance"))) [(.loc "got"),(.k (.con (.ref 126)))])
   [.raise (.call (.k (.con (.ref 139))) [(.k (.str [99,97,110,110,111,116,32,121,105,101,108,100,58,32,67,32,115,116,97,99,107,32,98,117,115,121])),(.tup [(.k (.str [84,67,76])),(.k (.str [67,79,82,79,85,84,73,78,69])),(.k (.str [67,65,78,84,95,89,73,69,76,68]))])])]
   [],
  .ret (.loc "got")]⟩
noncomputable def By:Fn:=⟨["self","nest"],[],
  [.cond (.cmp (.attr (.loc "nest") "back") .isNot (.k .none))
   [.assign (.attr (.loc "self") "frame") (.attr (.loc "nest") "back")]
   []]⟩
noncomputable def Lh:Fn:=⟨["self","script"],[],
  [.expr (.call (.k (.con (.ref 21))) [(.k (.int 1))])]⟩
noncomputable def Li:Fn:=⟨["verb","name"],[],
  [.assign (.name "why") (.bin .add (.bin .add (.bin .add (.bin .add (.k (.str [99,97,110,39,116,32])) (.loc "verb")) (.k (.str [32,34]))) (.loc "name")) (.k (.str [34,58,32,110,111,32,115,117,99,104,32,118,97,114,105,97,98,108,101]))),
  .ret (.call (.k (.con (.ref 139))) [(.loc "why"),(.tup [(.k (.str [84,67,76])),(.k (.str [76,79,79,75,85,80])),(.k (.str [86,65,82,78,65,77,69])),(.loc "name")])])]⟩
noncomputable def s8:Fn:=⟨["book","name"],[],
  [.cond (.cmp (.loc "name") .notin (.loc "book"))
   [.assign (.sub (.loc "book") (.loc "name")) (.call (.k (.con (.ref 345))) [])]
   [],
  .ret (.sub (.loc "book") (.loc "name"))]⟩
noncomputable def BJ:Fn:=⟨["var","kind","value"],[],
  [.assign (.attr (.loc "var") "kind") (.loc "kind"),
  .assign (.attr (.loc "var") "value") (.loc "value"),
  .augAttr (.loc "var") "writes" .add (.k (.int 1)),
  .ret (.loc "value")]⟩
noncomputable def Lj:Fn:=⟨["book","name"],[],
  [.assign (.name "found") (.dict [] []),
  .each (.name "whole") false (.loc "book")
   [.cond (.bop true [(.cmp (.k (.str [40])) .notin (.loc "name")),(.meth (.loc "whole") "startswith" [(.bin .add (.loc "name") (.k (.str [40])))]),(.meth (.loc "whole") "endswith" [(.k (.str [41]))]),(.cmp (.attr (.sub (.loc "book") (.loc "whole")) "kind") .ne (.k (.str [110,111,110,101])))])
     [.assign (.sub (.loc "found") (.slice (.loc "whole") (.bin .add (.call (.k (.con (.builtin "len"))) [(.loc "name")]) (.k (.int 1))) (.neg (.k (.int 1))))) (.sub (.loc "book") (.loc "whole"))]
     []],
  .ret (.loc "found")]⟩
noncomputable def BK:Fn:=⟨["host","words","action","data"],[],
  [.cond (.cmp (.loc "data") .is (.k .none))
   [.ret (.call (.loc "action") [(.loc "host"),(.loc "words")])]
   [],
  .ret (.call (.loc "action") [(.loc "host"),(.loc "words"),(.loc "data")])]⟩
noncomputable def BL:Fn:=⟨["self","limit","fuel"],[(.int 40), .none],
  [.expr (.meth (.k (.con (.ref 430))) "__init__" [(.loc "self"),(.loc "limit"),(.loc "fuel")]),
  .assign (.attr (.loc "self") "vars") (.dict [] []),
  .assign (.attr (.loc "self") "commands") (.dict [] []),
  .assign (.attr (.loc "self") "firsts") (.dict [] [])]⟩
noncomputable def wM:Fn:=⟨["self","name"],[],
  [.ret (.bop true [(.cmp (.loc "name") .isin (.attr (.loc "self") "vars")),(.cmp (.attr (.sub (.attr (.loc "self") "vars") (.loc "name")) "kind") .ne (.k (.str [110,111,110,101])))])]⟩
noncomputable def tu:Fn:=⟨["self","name"],[],
  [.ret (.call (.k (.con (.ref 448))) [(.attr (.loc "self") "vars"),(.loc "name")])]⟩
noncomputable def BP:Fn:=⟨["self","var","name"],[],
  [.cond (.cmp (.attr (.loc "var") "kind") .eq (.k (.str [110,111,110,101])))
   [.raise (.call (.k (.con (.ref 441))) [(.k (.str [114,101,97,100])),(.loc "name")])]
   [],
  .ret (.attr (.loc "var") "value")]⟩
noncomputable def BR:Fn:=⟨["self","var","name","value"],[],
  [.ret (.call (.k (.con (.ref 455))) [(.loc "var"),(.k (.str [115,99,97,108,97,114])),(.loc "value")])]⟩
noncomputable def BV:Fn:=⟨["self","name"],[],
  [.ret (.meth (.loc "self") "read_var" [(.meth (.loc "self") "place" [(.loc "name")]),(.loc "name")])]⟩
noncomputable def wN:Fn:=⟨["self","name","value"],[],
  [.ret (.meth (.loc "self") "write_var" [(.meth (.loc "self") "place" [(.loc "name")]),(.loc "name"),(.loc "value")])]⟩
noncomputable def Lk:Fn:=⟨["self","name"],[],
  [.cond (.not (.meth (.loc "self") "has" [(.loc "name")]))
   [.raise (.call (.k (.con (.ref 441))) [(.k (.str [117,110,115,101,116])),(.loc "name")])]
   [],
  .expr (.call (.k (.con (.ref 455))) [(.sub (.attr (.loc "self") "vars") (.loc "name")),(.k (.str [110,111,110,101])),(.k (.str []))])]⟩
noncomputable def Ln:Fn:=⟨["self","name"],[],
  [.expr (.call (.k (.con (.ref 21))) [(.k (.int 2))])]⟩
noncomputable def Lp:Fn:=⟨["self","name","is_made"],[],
  [.assign (.name "found") (.call (.k (.con (.ref 462))) [(.attr (.loc "self") "vars"),(.loc "name")]),
  .ret (.ite (.bop false [(.loc "found"),(.loc "is_made")]) (.loc "found") (.k .none))]⟩
noncomputable def BW:Fn:=⟨["self","name","action","data"],[.none],
  [.expr (.meth (.loc "self") "remove" [(.loc "name")]),
  .assign (.sub (.attr (.loc "self") "commands") (.loc "name")) (.tup [(.loc "action"),(.loc "data")])]⟩
noncomputable def BX:Fn:=⟨["self","name"],[],
  [.expr (.meth (.attr (.loc "self") "commands") "pop" [(.loc "name"),(.k .none)]),
  .expr (.meth (.attr (.loc "self") "firsts") "pop" [(.loc "name"),(.k .none)]),
  .cond (.cmp (.loc "name") .isin (.attr (.loc "self") "inline"))
   [.augAttr (.loc "self") "epoch" .add (.k (.int 1))]
   []]⟩
noncomputable def Lq:Fn:=⟨["self","group"],[],
  [.expr (.call (.k (.con (.ref 21))) [(.k (.int 3))])]⟩
noncomputable def Lr:Fn:=⟨["self","name"],[],
  [.expr (.call (.k (.con (.ref 21))) [(.k (.int 4))])]⟩
noncomputable def BZ:Fn:=⟨["self","words"],[],
  [.cond (.cmp (.sub (.loc "words") (.k (.int 0))) .notin (.attr (.loc "self") "commands"))
   [.raise (.call (.k (.con (.ref 139))) [(.bin .add (.bin .add (.k (.str [105,110,118,97,108,105,100,32,99,111,109,109,97,110,100,32,110,97,109,101,32,34])) (.sub (.loc "words") (.k (.int 0)))) (.k (.str [34]))),(.tup [(.k (.str [84,67,76])),(.k (.str [76,79,79,75,85,80])),(.k (.str [67,79,77,77,65,78,68])),(.sub (.loc "words") (.k (.int 0)))])])]
   [],
  .expr (.meth (.loc "self") "spend" []),
  .assign (.names ["action","data"]) (.sub (.attr (.loc "self") "commands") (.sub (.loc "words") (.k (.int 0)))),
  .ret (.call (.k (.con (.ref 469))) [(.loc "self"),(.loc "words"),(.loc "action"),(.loc "data")])]⟩
noncomputable def Ca:Fn:=⟨["c"],[],
  [.ret (.cmp (.loc "c") .isin (.tup [(.k (.str [32])),(.k (.str [9])),(.k (.str [10])),(.k (.str [11])),(.k (.str [12])),(.k (.str [13]))]))]⟩
noncomputable def qe:Fn:=⟨["element","is_hash"],[],
  [.cond (.cmp (.loc "element") .eq (.k (.str [])))
   [.ret (.k (.str [98,114,97,99,101]))]
   [],
  .assign (.name "begins") (.sub (.loc "element") (.k (.int 0))),
  .assign (.name "is_bound") (.cmp (.loc "begins") .isin (.tup [(.k (.str [123])),(.k (.str [34]))])),
  .assign (.name "is_hashed") (.bop true [(.loc "is_hash"),(.cmp (.loc "begins") .eq (.k (.str [35])))]),
  .assign (.name "wants_brace") (.bop false [(.loc "is_bound"),(.loc "is_hashed")]),
  .assign (.name "wants_escape") (.k (.bool false)),
  .assign (.names ["depth","at"]) (.tup [(.k (.int 0)),(.k (.int 0))]),
  .loop (.cmp (.loc "at") .lt (.call (.k (.con (.builtin "len"))) [(.loc "element")]))
   [.assign (.name "c") (.sub (.loc "element") (.loc "at")),
    .augName "at" .add (.k (.int 1)),
    .cond (.cmp (.loc "c") .eq (.k (.str [123])))
     [.augName "depth" .add (.k (.int 1))]
     [.cond (.cmp (.loc "c") .eq (.k (.str [125])))
      [.augName "depth" .sub (.k (.int 1)),
       .cond (.cmp (.loc "depth") .lt (.k (.int 0)))
        [.ret (.k (.str [101,115,99,97,112,101]))]
        []]
      [.cond (.cmp (.loc "c") .isin (.tup [(.k (.str [93])),(.k (.str [34]))]))
        [.assign (.name "is_bound") (.k (.bool true)),
        .assign (.name "wants_escape") (.k (.bool true))]
        [.cond (.bop false [(.cmp (.loc "c") .isin (.tup [(.k (.str [91])),(.k (.str [36])),(.k (.str [59])),(.k (.str [92]))])),(.call (.k (.con (.ref 595))) [(.loc "c")])])
         [.assign (.name "is_bound") (.k (.bool true)),
          .assign (.name "wants_brace") (.k (.bool true)),
          .cond (.cmp (.loc "c") .eq (.k (.str [92])))
           [.cond (.bop false [(.cmp (.loc "at") .eq (.call (.k (.con (.builtin "len"))) [(.loc "element")])),(.cmp (.sub (.loc "element") (.loc "at")) .eq (.k (.str [10])))])
            [.ret (.k (.str [101,115,99,97,112,101]))]
            [],
           .cond (.cmp (.sub (.loc "element") (.loc "at")) .isin (.tup [(.k (.str [123])),(.k (.str [125])),(.k (.str [92]))]))
            [.augName "at" .add (.k (.int 1))]
            []]
           []]
         []]]]],
  .cond (.cmp (.loc "depth") .gt (.k (.int 0)))
   [.ret (.k (.str [101,115,99,97,112,101]))]
   [],
  .cond (.loc "is_bound")
   [.ret (.ite (.bop true [(.loc "wants_escape"),(.not (.loc "wants_brace"))]) (.k (.str [109,97,115,107])) (.k (.str [98,114,97,99,101])))]
   [],
  .ret (.ite (.loc "is_hashed") (.k (.str [98,114,97,99,101])) (.k (.str [110,111,110,101])))]⟩
noncomputable def Ls:Fn:=⟨["c","is_deep"],[],
  [.assign (.name "place") (.meth (.k (.str [12,10,13,9,11])) "find" [(.loc "c")]),
  .cond (.cmp (.loc "place") .ge (.k (.int 0)))
   [.ret (.bin .add (.k (.str [92])) (.sub (.k (.str [102,110,114,116,118])) (.loc "place")))]
   [],
  .cond (.bop false [(.cmp (.loc "c") .isin (.tup [(.k (.str [93])),(.k (.str [91])),(.k (.str [36])),(.k (.str [59])),(.k (.str [32])),(.k (.str [92])),(.k (.str [34]))])),(.bop true [(.loc "is_deep"),(.cmp (.loc "c") .isin (.tup [(.k (.str [123])),(.k (.str [125]))]))])])
   [.ret (.bin .add (.k (.str [92])) (.loc "c"))]
   [],
  .ret (.loc "c")]⟩
noncomputable def Cd:Fn:=⟨["element","is_hash"],[(.bool false)],
  [.assign (.name "mode") (.call (.k (.con (.ref 602))) [(.loc "element"),(.loc "is_hash")]),
  .cond (.cmp (.loc "mode") .eq (.k (.str [110,111,110,101])))
   [.ret (.loc "element")]
   [],
  .cond (.cmp (.loc "mode") .eq (.k (.str [98,114,97,99,101])))
   [.ret (.bin .add (.bin .add (.k (.str [123])) (.loc "element")) (.k (.str [125])))]
   [],
  .assign (.name "out") (.list []),
  .cond (.bop true [(.loc "is_hash"),(.cmp (.sub (.loc "element") (.k (.int 0))) .eq (.k (.str [35])))])
   [.expr (.meth (.loc "out") "append" [(.k (.str [92]))])]
   [],
  .each (.name "c") false (.loc "element")
   [.expr (.meth (.loc "out") "append" [(.call (.k (.con (.ref 609))) [(.loc "c"),(.cmp (.loc "mode") .eq (.k (.str [101,115,99,97,112,101])))])])],
  .ret (.meth (.k (.str [])) "join" [(.loc "out")])]⟩
noncomputable def tB:Fn:=⟨["items"],[],
  [.assign (.name "out") (.list []),
  .each (.name "item") false (.loc "items")
   [.expr (.meth (.loc "out") "append" [(.call (.k (.con (.ref 617))) [(.loc "item"),(.cmp (.call (.k (.con (.builtin "len"))) [(.loc "out")]) .eq (.k (.int 0)))])])],
  .ret (.meth (.k (.str [32])) "join" [(.loc "out")])]⟩
noncomputable def Ce:Fn:=⟨["errorcode"],[],
  [.cond (.call (.k (.con (.builtin "isinstance"))) [(.loc "errorcode"),(.k (.con (.type "tuple")))])
   [.ret (.call (.k (.con (.ref 624))) [(.loc "errorcode")])]
   [],
  .ret (.loc "errorcode")]⟩
noncomputable def Cg:Fn:=⟨["raised"],[],
  [.cond (.cmp (.attr (.loc "raised") "info") .eq (.k (.str [])))
   [.ret (.attr (.loc "raised") "value")]
   [],
  .ret (.attr (.loc "raised") "info")]⟩
noncomputable def Ci:Fn:=⟨["raised"],[],
  [.assign (.name "errorcode") (.call (.k (.con (.ref 631))) [(.attr (.loc "raised") "errorcode")]),
  .cond (.cmp (.attr (.loc "raised") "code") .eq (.k (.int 1)))
   [.ret (.list [(.k (.str [45,101,114,114,111,114,99,111,100,101])),(.loc "errorcode"),(.k (.str [45,101,114,114,111,114,105,110,102,111])),(.call (.k (.con (.ref 638))) [(.loc "raised")])])]
   [],
  .assign (.name "told") (.list []),
  .cond (.bop true [(.cmp (.attr (.loc "raised") "code") .eq (.k (.int 2))),(.cmp (.attr (.loc "raised") "ret") .eq (.k (.int 1)))])
   [.cond (.cmp (.loc "errorcode") .ne (.k (.str [78,79,78,69])))
     [.expr (.meth (.loc "told") "extend" [(.list [(.k (.str [45,101,114,114,111,114,99,111,100,101])),(.loc "errorcode")])])]
     [],
    .cond (.cmp (.attr (.loc "raised") "info") .ne (.k (.str [])))
     [.expr (.meth (.loc "told") "extend" [(.list [(.k (.str [45,101,114,114,111,114,105,110,102,111])),(.attr (.loc "raised") "info")])])]
     []]
   [],
  .ret (.loc "told")]⟩
noncomputable def qg:Fn:=⟨["raised"],[],
  [.cond (.cmp (.loc "raised") .is (.k .none))
   [.ret (.k (.str [45,99,111,100,101,32,48,32,45,108,101,118,101,108,32,48]))]
   [],
  .assign (.name "code") (.attr (.loc "raised") "code"),
  .assign (.name "level") (.k (.int 0)),
  .cond (.cmp (.loc "code") .eq (.k (.int 2)))
   [.assign (.name "code") (.attr (.loc "raised") "ret"),
    .assign (.name "level") (.attr (.loc "raised") "level")]
   [],
  .assign (.name "items") (.list [(.k (.str [45,99,111,100,101])),(.call (.k (.con (.type "str"))) [(.loc "code")]),(.k (.str [45,108,101,118,101,108])),(.call (.k (.con (.type "str"))) [(.loc "level")])]),
  .expr (.meth (.loc "items") "extend" [(.call (.k (.con (.ref 645))) [(.loc "raised")])]),
  .each (.names ["name","value"]) false (.attr (.loc "raised") "extra")
   [.expr (.meth (.loc "items") "extend" [(.list [(.loc "name"),(.loc "value")])])],
  .ret (.call (.k (.con (.ref 624))) [(.loc "items")])]⟩
noncomputable def wO:Fn:=⟨["host","name","value"],[],
  [.tryExc
   [.expr (.meth (.loc "host") "write" [(.loc "name"),(.loc "value")])]
   84 .none
   [.ret (.k .none)]]⟩
noncomputable def Cj:Fn:=⟨["host","raised"],[],
  [.cond (.cmp (.attr (.loc "raised") "code") .eq (.k (.int 1)))
   [.expr (.call (.k (.con (.ref 659))) [(.loc "host"),(.k (.str [58,58,101,114,114,111,114,73,110,102,111])),(.call (.k (.con (.ref 638))) [(.loc "raised")])]),
    .expr (.call (.k (.con (.ref 659))) [(.loc "host"),(.k (.str [58,58,101,114,114,111,114,67,111,100,101])),(.call (.k (.con (.ref 631))) [(.attr (.loc "raised") "errorcode")])])]
   []]⟩
noncomputable def Lw:Fn:=⟨["machine","act","slot","name"],[],
  [.cond (.cmp (.sub (.attr (.loc "act") "slots") (.loc "slot")) .is (.k .none))
   [.assign (.sub (.attr (.loc "act") "slots") (.loc "slot")) (.meth (.attr (.loc "machine") "host") "place" [(.loc "name")])]
   [],
  .ret (.sub (.attr (.loc "act") "slots") (.loc "slot"))]⟩
noncomputable def Ck:Fn:=⟨["act","count"],[],
  [.assign (.name "at") (.bin .sub (.call (.k (.con (.builtin "len"))) [(.attr (.loc "act") "stack")]) (.loc "count")),
  .assign (.name "texts") (.slice (.attr (.loc "act") "stack") (.loc "at") (.k .none)),
  .assign (.attr (.loc "act") "stack") (.slice (.attr (.loc "act") "stack") (.k .none) (.loc "at")),
  .ret (.loc "texts")]⟩
noncomputable def Cm:Fn:=⟨["machine","act","a","b"],[],
  [.expr (.meth (.attr (.loc "act") "stack") "append" [(.loc "a")])]⟩
noncomputable def Lx:Fn:=⟨["machine","act","a","b"],[],
  [.expr (.meth (.attr (.loc "act") "stack") "pop" [])]⟩
noncomputable def Ly:Fn:=⟨["machine","act","a","b"],[],
  [.expr (.meth (.attr (.loc "act") "stack") "append" [(.meth (.attr (.loc "machine") "host") "read_var" [(.call (.k (.con (.ref 673))) [(.loc "machine"),(.loc "act"),(.loc "a"),(.loc "b")]),(.loc "b")])])]⟩
noncomputable def Lz:Fn:=⟨["machine","act","a","b"],[],
  [.expr (.meth (.attr (.loc "act") "stack") "append" [(.meth (.attr (.loc "machine") "host") "read" [(.loc "a")])])]⟩
noncomputable def LK:Fn:=⟨["machine","act","a","b"],[],
  [.expr (.meth (.attr (.loc "act") "stack") "append" [(.meth (.attr (.loc "machine") "host") "read" [(.bin .add (.bin .add (.bin .add (.loc "a") (.k (.str [40]))) (.meth (.attr (.loc "act") "stack") "pop" [])) (.k (.str [41])))])])]⟩
noncomputable def LQ:Fn:=⟨["machine","act","a","b"],[],
  [.assign (.name "var") (.call (.k (.con (.ref 673))) [(.loc "machine"),(.loc "act"),(.loc "a"),(.loc "b")]),
  .expr (.meth (.attr (.loc "act") "stack") "append" [(.meth (.attr (.loc "machine") "host") "write_var" [(.loc "var"),(.loc "b"),(.meth (.attr (.loc "act") "stack") "pop" [])])])]⟩
noncomputable def LR:Fn:=⟨["machine","act","a","b"],[],
  [.expr (.meth (.attr (.loc "act") "stack") "append" [(.meth (.attr (.loc "machine") "host") "write" [(.loc "a"),(.meth (.attr (.loc "act") "stack") "pop" [])])])]⟩
noncomputable def Ma:Fn:=⟨["machine","act","a","b"],[],
  [.assign (.names ["index","value"]) (.call (.k (.con (.ref 680))) [(.loc "act"),(.k (.int 2))]),
  .expr (.meth (.attr (.loc "act") "stack") "append" [(.meth (.attr (.loc "machine") "host") "write" [(.bin .add (.bin .add (.bin .add (.loc "a") (.k (.str [40]))) (.loc "index")) (.k (.str [41]))),(.loc "value")])])]⟩
noncomputable def Mf:Fn:=⟨["machine","act","a","b"],[],
  [.assign (.name "texts") (.call (.k (.con (.ref 680))) [(.loc "act"),(.loc "a")]),
  .expr (.meth (.attr (.loc "act") "stack") "append" [(.meth (.k (.str [])) "join" [(.loc "texts")])])]⟩
noncomputable def Cp:Fn:=⟨["machine","words"],[],
  [.cond (.cmp (.call (.k (.con (.builtin "len"))) [(.loc "words")]) .eq (.k (.int 0)))
   [.expr (.meth (.loc "machine") "give" [(.k (.str []))])]
   [.expr (.meth (.loc "machine") "take" [(.meth (.attr (.loc "machine") "host") "begin" [(.loc "words")])])]]⟩
noncomputable def Cq:Fn:=⟨["machine","act","a","b"],[],
  [.expr (.call (.k (.con (.ref 750))) [(.loc "machine"),(.call (.k (.con (.ref 680))) [(.loc "act"),(.loc "a")])])]⟩
noncomputable def Mg:Fn:=⟨["machine","act","to"],[],
  [.cond (.cmp (.loc "to") .lt (.attr (.loc "act") "pc"))
   [.expr (.meth (.attr (.loc "machine") "host") "spend" [])]
   [],
  .assign (.attr (.loc "act") "pc") (.loc "to")]⟩
noncomputable def Mh:Fn:=⟨["machine","act","a","b"],[],
  [.cond (.cmp (.attr (.attr (.loc "machine") "host") "epoch") .ne (.attr (.attr (.loc "act") "code") "epoch"))
   [.cond (.cmp (.attr (.attr (.loc "machine") "host") "coroutine") .is (.k .none))
     [.expr (.meth (.attr (.loc "act") "stack") "append" [(.meth (.attr (.loc "machine") "host") "run" [(.loc "a")])]),
     .assign (.attr (.loc "act") "pc") (.loc "b")]
     [.assign (.attr (.loc "act") "pc") (.loc "b"),
     .expr (.meth (.loc "machine") "enter" [(.call (.k (.con (.ref 105))) [(.loc "a")])])]]
   []]⟩
noncomputable def Mi:Fn:=⟨["machine","act","a","b"],[],
  [.expr (.call (.k (.con (.ref 764))) [(.loc "machine"),(.loc "act"),(.loc "a")])]⟩
noncomputable def Mj:Fn:=⟨["machine","act","a","b"],[],
  [.cond (.cmp (.loc "b") .is (.k .none))
   [.raise (.call (.k (.con (.ref 139))) [(.loc "a")])]
   [],
  .raise (.call (.k (.con (.ref 139))) [(.loc "a"),(.loc "b")])]⟩
noncomputable def Cr:Fn:=⟨[],[],
  [.ret (.dict [.str [112,117,115,104], .str [112,111,112], .str [108,111,97,100], .str [108,111,97,100,95,110,97,109,101], .str [108,111,97,100,95,101,108,101,109,101,110,116], .str [115,116,111,114,101], .str [115,116,111,114,101,95,110,97,109,101], .str [115,116,111,114,101,95,101,108,101,109,101,110,116], .str [106,111,105,110], .str [105,110,118,111,107,101], .str [115,116,97,114,116], .str [106,117,109,112], .str [102,97,105,108]] [.con (.ref 687), .con (.ref 694), .con (.ref 701), .con (.ref 708), .con (.ref 715), .con (.ref 722), .con (.ref 729), .con (.ref 736), .con (.ref 743), .con (.ref 757), .con (.ref 771), .con (.ref 778), .con (.ref 785)])]⟩
noncomputable def Cu:Fn:=⟨["machine","act","a","b"],[],
  [.assign (.attr (.loc "act") "caught") (.tup [(.k (.int 0)),(.meth (.attr (.loc "act") "stack") "pop" []),(.k .none)])]⟩
noncomputable def Cv:Fn:=⟨["machine","act","a","b"],[],
  [.expr (.call (.k (.con (.ref 666))) [(.attr (.loc "machine") "host"),(.sub (.attr (.loc "act") "caught") (.k (.int 2)))])]⟩
noncomputable def Cw:Fn:=⟨["machine","act","a","b"],[],
  [.expr (.meth (.attr (.loc "act") "stack") "append" [(.sub (.attr (.loc "act") "caught") (.k (.int 1)))])]⟩
noncomputable def Cy:Fn:=⟨["machine","act","a","b"],[],
  [.expr (.meth (.attr (.loc "act") "stack") "append" [(.call (.k (.con (.ref 652))) [(.sub (.attr (.loc "act") "caught") (.k (.int 2)))])])]⟩
noncomputable def Cz:Fn:=⟨["machine","act","a","b"],[],
  [.expr (.meth (.attr (.loc "act") "stack") "append" [(.call (.k (.con (.type "str"))) [(.sub (.attr (.loc "act") "caught") (.k (.int 0)))])])]⟩
noncomputable def CG:Fn:=⟨[],[],
  [.ret (.dict [.str [109,97,114,107,95,111,107], .str [99,97,117,103,104,116], .str [99,97,117,103,104,116,95,118,97,108,117,101], .str [99,97,117,103,104,116,95,111,112,116,105,111,110,115], .str [99,97,117,103,104,116,95,99,111,100,101]] [.con (.ref 799), .con (.ref 806), .con (.ref 813), .con (.ref 820), .con (.ref 827)])]⟩
noncomputable def CJ:Fn:=⟨["script","place"],[],
  [.ret (.ite (.cmp (.loc "place") .lt (.call (.k (.con (.builtin "len"))) [(.loc "script")])) (.sub (.loc "script") (.loc "place")) (.k (.int 0)))]⟩
noncomputable def CK:Fn:=⟨["kind","lo","hi","number"],[],
  [.cond (.cmp (.loc "kind") .eq (.k (.int 1)))
   [.assign (.name "target") (.bin .fmod (.bin .fdiv (.loc "number") (.k (.int 2))) (.k (.int 9))),
    .assign (.name "to_break") (.ite (.cmp (.loc "target") .lt (.k (.int 7))) (.tup [(.loc "target"),(.k (.bool false))]) (.tup [(.sub (.list [(.k (.int 2)),(.k (.int 5))]) (.bin .sub (.loc "target") (.k (.int 7)))),(.k (.bool true))])),
    .assign (.name "to_continue") (.k .none)]
   [.assign (.name "to_break") (.tup [(.bin .fmod (.bin .fdiv (.loc "number") (.k (.int 2))) (.k (.int 7))),(.k (.bool false))]),
    .assign (.name "target") (.bin .fmod (.bin .fdiv (.loc "number") (.k (.int 80))) (.k (.int 8))),
    .assign (.name "to_continue") (.ite (.cmp (.loc "target") .lt (.k (.int 7))) (.tup [(.loc "target"),(.k (.bool false))]) (.k .none))],
  .assign (.name "late") (.cmp (.bin .fmod (.bin .fdiv (.loc "number") (.k (.int 640))) (.k (.int 2))) .eq (.k (.int 1))),
  .assign (.name "over") (.cmp (.bin .fmod (.bin .fdiv (.loc "number") (.k (.int 1280))) (.k (.int 2))) .eq (.k (.int 1))),
  .ret (.tup [(.sub (.list [(.k (.str [108,111,111,112])),(.k (.str [99,97,116,99,104]))]) (.loc "kind")),(.loc "lo"),(.loc "hi"),(.loc "to_break"),(.loc "to_continue"),(.bin .fmod (.bin .fdiv (.loc "number") (.k (.int 20))) (.k (.int 4))),(.loc "late"),(.loc "over")])]⟩
noncomputable def mF:Fn:=⟨["script","first","number"],[],
  [.assign (.name "digits") (.comp (.call (.k (.con (.ref 841))) [(.loc "script"),(.bin .add (.loc "first") (.loc "k"))]) "k" true (.k (.int 6)) []),
  .assign (.names ["lo","hi"]) (.tup [(.bin .fmod (.sub (.loc "digits") (.k (.int 0))) (.k (.int 2))),(.bin .sub (.k (.int 6)) (.bin .fmod (.bin .fdiv (.sub (.loc "digits") (.k (.int 0))) (.k (.int 2))) (.k (.int 3))))]),
  .assign (.names ["low","high"]) (.tup [(.bin .add (.loc "lo") (.bin .fmod (.sub (.loc "digits") (.k (.int 1))) (.k (.int 2)))),(.bin .sub (.bin .sub (.loc "hi") (.k (.int 1))) (.bin .fmod (.bin .add (.bin .fdiv (.sub (.loc "digits") (.k (.int 1))) (.k (.int 2))) (.k (.int 1))) (.k (.int 3))))]),
  .assign (.name "least") (.bin .add (.loc "low") (.bin .fmod (.bin .add (.sub (.loc "digits") (.k (.int 2))) (.k (.int 1))) (.k (.int 2)))),
  .assign (.name "most") (.call (.k (.con (.builtin "max"))) [(.loc "least"),(.bin .sub (.loc "high") (.bin .fmod (.bin .add (.bin .fdiv (.sub (.loc "digits") (.k (.int 2))) (.k (.int 2))) (.k (.int 1))) (.k (.int 3))))]),
  .assign (.name "ranges") (.list []),
  .assign (.name "base") (.list [(.k (.int 35)),(.k (.int 730)),(.k (.int 1295)),(.k (.int 612))]),
  .assign (.name "drawn") (.comp (.bin .add (.bin .add (.sub (.loc "base") (.loc "k")) (.bin .mul (.k (.int 977)) (.loc "number"))) (.bin .fdiv (.sub (.loc "digits") (.loc "k")) (.k (.int 6)))) "k" true (.k (.int 4)) []),
  .expr (.meth (.loc "ranges") "append" [(.call (.k (.con (.ref 848))) [(.bin .fmod (.sub (.loc "drawn") (.k (.int 0))) (.k (.int 2))),(.loc "lo"),(.loc "hi"),(.sub (.loc "drawn") (.k (.int 0)))])]),
  .cond (.cmp (.bin .fmod (.sub (.loc "digits") (.k (.int 3))) (.k (.int 3))) .lt (.k (.int 2)))
   [.expr (.meth (.loc "ranges") "append" [(.call (.k (.con (.ref 848))) [(.bin .fmod (.sub (.loc "drawn") (.k (.int 3))) (.k (.int 2))),(.bin .add (.loc "high") (.k (.int 1))),(.loc "hi"),(.sub (.loc "drawn") (.k (.int 3)))])])]
   [],
  .cond (.cmp (.loc "low") .le (.loc "high"))
   [.expr (.meth (.loc "ranges") "append" [(.call (.k (.con (.ref 848))) [(.bin .fmod (.sub (.loc "drawn") (.k (.int 1))) (.k (.int 2))),(.loc "low"),(.loc "high"),(.sub (.loc "drawn") (.k (.int 1)))])])]
   [],
  .cond (.cmp (.loc "most") .le (.loc "high"))
   [.expr (.meth (.loc "ranges") "append" [(.call (.k (.con (.ref 848))) [(.bin .fmod (.sub (.loc "drawn") (.k (.int 2))) (.k (.int 2))),(.loc "least"),(.loc "most"),(.sub (.loc "drawn") (.k (.int 2)))])])]
   [],
  .assign (.name "owned") (.comp (.cmp (.bin .fmod (.bin .fdiv (.bin .add (.sub (.loc "digits") (.k (.int 4))) (.k (.int 18))) (.bin .pow (.k (.int 2)) (.loc "k"))) (.k (.int 2))) .eq (.k (.int 1))) "k" true (.k (.int 7)) []),
  .assign (.name "main") (.ite (.bop false [(.cmp (.bin .fmod (.sub (.loc "digits") (.k (.int 5))) (.k (.int 4))) .lt (.k (.int 3))),(.cmp (.loc "number") .ne (.k (.int 1)))]) (.k (.str [97,108,108])) (.bin .mul (.k (.str [109])) (.bin .add (.k (.int 149)) (.bin .fmod (.bin .fdiv (.sub (.loc "digits") (.k (.int 5))) (.k (.int 4))) (.k (.int 3)))))),
  .ret (.tup [(.list [(.k (.str [48])),(.k (.str [49])),(.k (.str [])),(.k (.str [50])),(.k (.str [51])),(.k (.str [])),(.k (.str [52]))]),(.loc "ranges"),(.loc "owned"),(.bin .fmod (.bin .add (.bin .fdiv (.sub (.loc "digits") (.k (.int 5))) (.k (.int 16))) (.k (.int 5))) (.k (.int 8))),(.loc "main")])]⟩
noncomputable def CN:Fn:=⟨["which"],[],
  [.cond (.cmp (.loc "which") .eq (.k (.int 0)))
   [.ret (.tup [(.list [(.k (.str [97]))]),(.list []),(.list [(.k (.bool false))]),(.k (.int 0)),(.k (.str [110,111,110,101]))])]
   [],
  .cond (.cmp (.loc "which") .eq (.k (.int 1)))
   [.ret (.tup [(.list [(.k (.str [98])),(.k (.str []))]),(.list [(.tup [(.k (.str [99,97,116,99,104])),(.k (.int 0)),(.k (.int 0)),(.tup [(.k (.int 1)),(.k (.bool true))]),(.k .none),(.k (.int 0)),(.k (.bool true)),(.k (.bool false))])]),(.list [(.k (.bool true)),(.k (.bool false))]),(.k (.int 2)),(.k (.str [105,110,32,98]))])]
   [],
  .cond (.cmp (.loc "which") .eq (.k (.int 2)))
   [.ret (.tup [(.list [(.k (.str [99])),(.k (.str [100]))]),(.list [(.tup [(.k (.str [108,111,111,112])),(.k (.int 0)),(.k (.int 0)),(.tup [(.k (.int 1)),(.k (.bool false))]),(.k .none),(.k (.int 0)),(.k (.bool false)),(.k (.bool true))])]),(.list [(.k (.bool false)),(.k (.bool true))]),(.k (.int 1)),(.k (.str [105,110,32,99]))])]
   [],
  .ret (.tup [(.list [(.k (.str [101])),(.k (.str [])),(.k (.str [102]))]),(.list [(.tup [(.k (.str [99,97,116,99,104])),(.k (.int 0)),(.k (.int 2)),(.tup [(.k (.int 2)),(.k (.bool false))]),(.k .none),(.k (.int 1)),(.k (.bool false)),(.k (.bool false))])]),(.list [(.k (.bool false)),(.k (.bool false)),(.k (.bool false))]),(.k (.int 3)),(.k (.str [105,110,32,101]))])]⟩
noncomputable def wQ:Fn:=⟨["items"],[],
  [.assign (.name "starts") (.list [(.k (.int 0))]),
  .each (.name "name") false (.loc "items")
   [.expr (.meth (.loc "starts") "append" [(.bin .add (.sub (.loc "starts") (.neg (.k (.int 1)))) (.ite (.cmp (.loc "name") .eq (.k (.str []))) (.k (.int 5)) (.k (.int 3))))])],
  .ret (.loc "starts")]⟩
noncomputable def wR:Fn:=⟨["items"],[],
  [.assign (.name "rows") (.list []),
  .each (.name "name") false (.loc "items")
   [.cond (.cmp (.loc "name") .eq (.k (.str [])))
     [.assign (.name "rows") (.bin .add (.loc "rows") (.list [(.tup [(.k (.str [112,117,115,104])),(.k (.str [102,105,110,101])),(.k .none)]),(.tup [(.k (.str [109,97,114,107,95,111,107])),(.k .none),(.k .none)]),(.tup [(.k (.str [99,97,117,103,104,116,95,99,111,100,101])),(.k .none),(.k .none)])])),
     .assign (.name "rows") (.bin .add (.loc "rows") (.list [(.tup [(.k (.str [99,97,117,103,104,116,95,118,97,108,117,101])),(.k .none),(.k .none)]),(.tup [(.k (.str [99,97,117,103,104,116,95,111,112,116,105,111,110,115])),(.k .none),(.k .none)])]))]
     [.assign (.name "rows") (.bin .add (.loc "rows") (.list [(.tup [(.k (.str [112,117,115,104])),(.k (.str [114])),(.k .none)]),(.tup [(.k (.str [112,117,115,104])),(.loc "name"),(.k .none)]),(.tup [(.k (.str [105,110,118,111,107,101])),(.k (.int 2)),(.k .none)])]))]],
  .ret (.loc "rows")]⟩
noncomputable def CP:Fn:=⟨["starts","target"],[],
  [.ret (.bin .add (.sub (.loc "starts") (.sub (.loc "target") (.k (.int 0)))) (.ite (.sub (.loc "target") (.k (.int 1))) (.k (.int 2)) (.k (.int 0))))]⟩
noncomputable def qi:Fn:=⟨["shape"],[],
  [.assign (.names ["items","ranges","owned","upto","main"]) (.loc "shape"),
  .assign (.name "starts") (.call (.k (.con (.ref 867))) [(.loc "items")]),
  .assign (.name "made") (.list []),
  .each (.names ["kind","lo","hi","to_break","to_continue","depth","late","over"]) false (.loc "ranges")
   [.assign (.name "first") (.bin .add (.sub (.loc "starts") (.loc "lo")) (.ite (.loc "late") (.k (.int 2)) (.k (.int 0)))),
    .assign (.name "behind") (.bin .add (.sub (.loc "starts") (.bin .add (.loc "hi") (.k (.int 1)))) (.ite (.bop true [(.loc "over"),(.cmp (.bin .add (.loc "hi") (.k (.int 1))) .lt (.call (.k (.con (.builtin "len"))) [(.loc "items")]))]) (.k (.int 2)) (.k (.int 0)))),
    .assign (.name "onward") (.ite (.cmp (.loc "to_continue") .is (.k .none)) (.k .none) (.call (.k (.con (.ref 881))) [(.loc "starts"),(.loc "to_continue")])),
    .assign (.name "made") (.bin .add (.list [(.tup [(.loc "kind"),(.loc "first"),(.loc "behind"),(.call (.k (.con (.ref 881))) [(.loc "starts"),(.loc "to_break")]),(.loc "onward"),(.loc "depth")])]) (.loc "made"))],
  .assign (.name "sources") (.list []),
  .each (.name "k") true (.call (.k (.con (.builtin "len"))) [(.loc "items")])
   [.cond (.sub (.loc "owned") (.loc "k"))
     [.expr (.meth (.loc "sources") "append" [(.tup [(.bin .add (.sub (.loc "starts") (.loc "k")) (.k (.int 2))),(.bin .add (.sub (.loc "starts") (.loc "k")) (.k (.int 3))),(.bin .add (.k (.str [114,32])) (.sub (.loc "items") (.loc "k")))])])]
     []],
  .expr (.meth (.loc "sources") "append" [(.tup [(.k (.int 0)),(.bin .add (.sub (.loc "starts") (.loc "upto")) (.ite (.cmp (.loc "upto") .lt (.call (.k (.con (.builtin "len"))) [(.loc "items")])) (.k (.int 2)) (.k (.int 0)))),(.loc "main")])]),
  .ret (.call (.k (.con (.ref 324))) [(.call (.k (.con (.ref 874))) [(.loc "items")]),(.loc "made"),(.list []),(.loc "sources"),(.k (.int 0))])]⟩
noncomputable def CQ:Fn:=⟨["host","text","is_slots"],[],
  [.ret (.call (.k (.con (.ref 888))) [(.call (.k (.con (.ref 860))) [(.meth (.list [(.k (.str [110,48])),(.k (.str [110,49])),(.k (.str [110,50])),(.k (.str [110,51]))]) "index" [(.loc "text")])])])]⟩
noncomputable def wU:Fn:=⟨["script","first","number"],[],
  [.assign (.name "plan") (.list []),
  .assign (.name "texts") (.list [(.k (.str [118])),(.k (.str [])),(.k (.str [97,32,98])),(.k (.str [55])),(.k (.str [120,10,121]))]),
  .assign (.name "errors") (.k (.int 0)),
  .each (.name "k") true (.k (.int 9))
   [.assign (.name "digit") (.call (.k (.con (.ref 841))) [(.loc "script"),(.bin .add (.loc "first") (.loc "k"))]),
    .assign (.name "kind") (.bin .fmod (.bin .add (.bin .add (.bin .add (.loc "digit") (.k (.int 1))) (.bin .mul (.k (.int 5)) (.loc "k"))) (.bin .mul (.k (.int 3)) (.loc "number"))) (.k (.int 8))),
    .cond (.cmp (.loc "kind") .isin (.list [(.k (.int 1)),(.k (.int 7))]))
     [.assign (.name "errors") (.bin .add (.loc "errors") (.k (.int 1))),
     .assign (.name "kind") (.ite (.cmp (.loc "errors") .lt (.k (.int 4))) (.loc "kind") (.k (.int 5)))]
     [],
    .expr (.meth (.loc "plan") "append" [(.tup [(.loc "kind"),(.sub (.loc "texts") (.bin .fmod (.bin .add (.bin .fdiv (.loc "digit") (.k (.int 8))) (.loc "k")) (.k (.int 5)))),(.bin .fmod (.bin .add (.bin .add (.bin .fdiv (.loc "digit") (.k (.int 40))) (.loc "k")) (.k (.int 3))) (.k (.int 36)))])])],
  .ret (.loc "plan")]⟩
noncomputable def CT:Fn:=⟨["kind","value","more"],[],
  [.assign (.name "code") (.sub (.list [(.k (.int 0)),(.k (.int 1)),(.k (.int 2)),(.k (.int 3)),(.k (.int 4)),(.sub (.list [(.k (.int 5)),(.k (.int 6)),(.neg (.k (.int 1))),(.k (.int 40))]) (.bin .fmod (.loc "more") (.k (.int 4)))),(.k (.int 0)),(.k (.int 1))]) (.loc "kind")),
  .assign (.name "errorcode") (.tup [(.k (.str [78,79,78,69]))]),
  .cond (.cmp (.loc "kind") .eq (.k (.int 7)))
   [.assign (.name "errorcode") (.sub (.list [(.tup [(.k (.str [65])),(.k (.str [98,32,99]))]),(.k (.str [67,32,123,100,32,101,125])),(.tup [(.k (.str [78,79,78,69]))])]) (.bin .fmod (.loc "more") (.k (.int 3))))]
   [],
  .assign (.name "level") (.ite (.cmp (.loc "kind") .eq (.k (.int 2))) (.bin .add (.k (.int 1)) (.bin .fmod (.loc "more") (.k (.int 3)))) (.k (.int 0))),
  .assign (.name "ret") (.ite (.cmp (.loc "kind") .eq (.k (.int 2))) (.sub (.list [(.k (.int 0)),(.k (.int 1)),(.k (.int 3))]) (.bin .fmod (.bin .fdiv (.loc "more") (.k (.int 3))) (.k (.int 3)))) (.k (.int 0))),
  .assign (.name "info") (.ite (.bop true [(.cmp (.loc "kind") .eq (.k (.int 7))),(.cmp (.bin .fmod (.bin .fdiv (.loc "more") (.k (.int 3))) (.k (.int 2))) .eq (.k (.int 1)))]) (.k (.str [116,111,108,100])) (.k (.str []))),
  .assign (.name "extra") (.ite (.bop true [(.cmp (.loc "kind") .eq (.k (.int 7))),(.cmp (.bin .fmod (.bin .fdiv (.loc "more") (.k (.int 6))) (.k (.int 2))) .eq (.k (.int 1)))]) (.list [(.tup [(.k (.str [45,120])),(.k (.str [121,32,122]))])]) (.list [])),
  .ret (.list [(.loc "code"),(.loc "value"),(.loc "errorcode"),(.loc "level"),(.loc "ret"),(.loc "info"),(.loc "extra"),(.k (.bool false))])]⟩
noncomputable def CV:Fn:=⟨["host","words","data"],[],
  [.assign (.names ["holder","log","plan"]) (.loc "data"),
  .expr (.meth (.loc "log") "append" [(.tup [(.sub (.loc "words") (.k (.int 1))),(.call (.k (.con (.type "tuple"))) [(.comp (.call (.k (.con (.type "tuple"))) [(.attr (.loc "act_now") "stack")]) "act_now" false (.attr (.sub (.loc "holder") (.k (.int 0))) "acts") [])])])]),
  .cond (.cmp (.call (.k (.con (.builtin "len"))) [(.loc "log")]) .gt (.call (.k (.con (.builtin "len"))) [(.loc "plan")]))
   [.ret (.k (.str [111,118,101,114]))]
   [],
  .assign (.names ["kind","value","more"]) (.sub (.loc "plan") (.bin .sub (.call (.k (.con (.builtin "len"))) [(.loc "log")]) (.k (.int 1)))),
  .cond (.cmp (.loc "kind") .eq (.k (.int 6)))
   [.ret (.call (.k (.con (.ref 105))) [(.bin .add (.k (.str [110])) (.call (.k (.con (.type "str"))) [(.bin .fmod (.loc "more") (.k (.int 4)))]))])]
   [],
  .assign (.names ["code","value","errorcode","level","ret","info","extra","noted"]) (.call (.k (.con (.ref 909))) [(.loc "kind"),(.loc "value"),(.loc "more")]),
  .cond (.cmp (.loc "code") .eq (.k (.int 0)))
   [.ret (.loc "value")]
   [],
  .assign (.name "raised") (.call (.k (.con (.ref 84))) [(.loc "code"),(.loc "value"),(.loc "errorcode"),(.loc "level"),(.loc "ret")]),
  .assign (.attr (.loc "raised") "info") (.loc "info"),
  .assign (.attr (.loc "raised") "extra") (.loc "extra"),
  .raise (.loc "raised")]⟩
noncomputable def CW:Fn:=⟨["fault","text"],[],
  [.cond (.cmp (.sub (.loc "fault") (.k (.int 0))) .ne (.k (.int 1)))
   [.ret (.k .none)]
   [],
  .assign (.name "shown") (.bin .add (.bin .add (.k (.str [34])) (.ite (.cmp (.call (.k (.con (.builtin "len"))) [(.loc "text")]) .le (.k (.int 150))) (.loc "text") (.bin .add (.slice (.loc "text") (.k .none) (.k (.int 150))) (.k (.str [46,46,46]))))) (.k (.str [34]))),
  .cond (.cmp (.sub (.loc "fault") (.k (.int 5))) .eq (.k (.str [])))
   [.assign (.sub (.loc "fault") (.k (.int 5))) (.bin .add (.bin .add (.sub (.loc "fault") (.k (.int 1))) (.k (.str [10,32,32,32,32,119,104,105,108,101,32,101,120,101,99,117,116,105,110,103,10]))) (.loc "shown"))]
   [.cond (.sub (.loc "fault") (.k (.int 7)))
     [.assign (.sub (.loc "fault") (.k (.int 5))) (.bin .add (.bin .add (.sub (.loc "fault") (.k (.int 5))) (.k (.str [10,32,32,32,32,105,110,118,111,107,101,100,32,102,114,111,109,32,119,105,116,104,105,110,10]))) (.loc "shown"))]
     []],
  .assign (.sub (.loc "fault") (.k (.int 7))) (.k (.bool true))]⟩
noncomputable def wV:Fn:=⟨["texts"],[],
  [.ret (.meth (.k (.str [32])) "join" [(.comp (.ite (.bop false [(.cmp (.loc "text") .eq (.k (.str []))),(.cmp (.k (.str [32])) .isin (.loc "text")),(.cmp (.k (.str [10])) .isin (.loc "text"))]) (.bin .add (.bin .add (.k (.str [123])) (.loc "text")) (.k (.str [125]))) (.loc "text")) "text" false (.loc "texts") [])])]⟩
noncomputable def CX:Fn:=⟨["errorcode"],[],
  [.ret (.ite (.call (.k (.con (.builtin "isinstance"))) [(.loc "errorcode"),(.k (.con (.type "str")))]) (.loc "errorcode") (.call (.k (.con (.ref 926))) [(.loc "errorcode")]))]⟩
noncomputable def oh:Fn:=⟨["fault"],[],
  [.cond (.cmp (.loc "fault") .is (.k .none))
   [.ret (.k (.str [45,99,111,100,101,32,48,32,45,108,101,118,101,108,32,48]))]
   [],
  .assign (.name "texts") (.list [(.k (.str [45,99,111,100,101])),(.call (.k (.con (.type "str"))) [(.sub (.loc "fault") (.k (.int 0)))]),(.k (.str [45,108,101,118,101,108])),(.k (.str [48]))]),
  .cond (.cmp (.sub (.loc "fault") (.k (.int 0))) .eq (.k (.int 2)))
   [.assign (.name "texts") (.list [(.k (.str [45,99,111,100,101])),(.call (.k (.con (.type "str"))) [(.sub (.loc "fault") (.k (.int 4)))]),(.k (.str [45,108,101,118,101,108])),(.call (.k (.con (.type "str"))) [(.sub (.loc "fault") (.k (.int 3)))])])]
   [],
  .cond (.cmp (.sub (.loc "fault") (.k (.int 0))) .eq (.k (.int 1)))
   [.assign (.name "texts") (.bin .add (.loc "texts") (.list [(.k (.str [45,101,114,114,111,114,99,111,100,101])),(.call (.k (.con (.ref 933))) [(.sub (.loc "fault") (.k (.int 2)))]),(.k (.str [45,101,114,114,111,114,105,110,102,111])),(.ite (.cmp (.sub (.loc "fault") (.k (.int 5))) .ne (.k (.str []))) (.sub (.loc "fault") (.k (.int 5))) (.sub (.loc "fault") (.k (.int 1))))]))]
   [],
  .each (.names ["name","value"]) false (.sub (.loc "fault") (.k (.int 6)))
   [.assign (.name "texts") (.bin .add (.loc "texts") (.list [(.loc "name"),(.loc "value")]))],
  .ret (.call (.k (.con (.ref 926))) [(.loc "texts")])]⟩
noncomputable def CZ:Fn:=⟨["world","name","stacks"],[],
  [.assign (.names ["log","plan","book","count"]) (.loc "world"),
  .expr (.meth (.loc "log") "append" [(.tup [(.loc "name"),(.loc "stacks")])]),
  .cond (.cmp (.call (.k (.con (.builtin "len"))) [(.loc "log")]) .gt (.call (.k (.con (.builtin "len"))) [(.loc "plan")]))
   [.ret (.list [(.k (.int 0)),(.k (.str [111,118,101,114]))])]
   [],
  .assign (.names ["kind","value","more"]) (.sub (.loc "plan") (.bin .sub (.call (.k (.con (.builtin "len"))) [(.loc "log")]) (.k (.int 1)))),
  .cond (.cmp (.loc "kind") .eq (.k (.int 6)))
   [.ret (.call (.k (.con (.ref 959))) [(.loc "world"),(.call (.k (.con (.ref 860))) [(.bin .fmod (.loc "more") (.k (.int 4)))]),(.loc "stacks")])]
   [],
  .ret (.call (.k (.con (.ref 909))) [(.loc "kind"),(.loc "value"),(.loc "more")])]⟩
noncomputable def Dc:Fn:=⟨["held","at","code"],[],
  [.cond (.not (.cmp2 (.sub (.loc "held") (.k (.int 1))) .le (.loc "at") .le (.sub (.loc "held") (.k (.int 2)))))
   [.ret (.k (.bool false))]
   [],
  .ret (.bop false [(.cmp (.sub (.loc "held") (.k (.int 0))) .eq (.k (.str [99,97,116,99,104]))),(.cmp (.loc "code") .eq (.k (.int 3))),(.bop true [(.cmp (.loc "code") .eq (.k (.int 4))),(.cmp (.sub (.loc "held") (.k (.int 4))) .isNot (.k .none))])])]⟩
noncomputable def tC:Fn:=⟨["world","shape","above"],[],
  [.assign (.names ["items","ranges","owned","upto","main"]) (.loc "shape"),
  .assign (.name "stack") (.list []),
  .assign (.name "caught") (.k .none),
  .assign (.names ["at","is_entry"]) (.tup [(.k (.int 0)),(.k (.bool false))]),
  .loop (.cmp (.loc "at") .lt (.call (.k (.con (.builtin "len"))) [(.loc "items")]))
   [.cond (.cmp (.sub (.loc "items") (.loc "at")) .eq (.k (.str [])))
     [.assign (.sub (.sub (.loc "world") (.k (.int 3))) (.k (.int 0))) (.bin .add (.sub (.sub (.loc "world") (.k (.int 3))) (.k (.int 0))) (.ite (.loc "is_entry") (.k (.int 3)) (.k (.int 5)))),
     .cond (.not (.loc "is_entry"))
      [.assign (.name "caught") (.k .none)]
      [],
     .assign (.name "stack") (.bin .add (.bin .add (.loc "stack") (.ite (.cmp (.loc "caught") .is (.k .none)) (.list [(.k (.str [48])),(.k (.str [102,105,110,101]))]) (.list [(.call (.k (.con (.type "str"))) [(.sub (.loc "caught") (.k (.int 0)))]),(.sub (.loc "caught") (.k (.int 1)))]))) (.list [(.call (.k (.con (.ref 940))) [(.loc "caught")])])),
     .assign (.names ["at","is_entry"]) (.tup [(.bin .add (.loc "at") (.k (.int 1))),(.k (.bool false))]),
     .cont]
     [],
    .assign (.sub (.sub (.loc "world") (.k (.int 3))) (.k (.int 0))) (.bin .add (.sub (.sub (.loc "world") (.k (.int 3))) (.k (.int 0))) (.k (.int 3))),
    .assign (.name "fault") (.call (.k (.con (.ref 947))) [(.loc "world"),(.sub (.loc "items") (.loc "at")),(.bin .add (.loc "above") (.tup [(.call (.k (.con (.type "tuple"))) [(.loc "stack")])]))]),
    .cond (.cmp (.sub (.loc "fault") (.k (.int 0))) .eq (.k (.int 0)))
     [.assign (.name "stack") (.bin .add (.loc "stack") (.list [(.sub (.loc "fault") (.k (.int 1)))])),
     .assign (.name "at") (.bin .add (.loc "at") (.k (.int 1))),
     .cont]
     [],
    .cond (.sub (.loc "owned") (.loc "at"))
     [.expr (.call (.k (.con (.ref 921))) [(.loc "fault"),(.bin .add (.k (.str [114,32])) (.sub (.loc "items") (.loc "at")))])]
     [.cond (.cmp (.loc "at") .lt (.loc "upto"))
      [.expr (.call (.k (.con (.ref 921))) [(.loc "fault"),(.loc "main")])]
      []],
    .assign (.name "taking") (.comp (.loc "held") "held" false (.loc "ranges") [(.call (.k (.con (.ref 954))) [(.loc "held"),(.loc "at"),(.sub (.loc "fault") (.k (.int 0)))])]),
    .cond (.cmp (.loc "taking") .eq (.list []))
     [.ret (.loc "fault")]
     [],
    .assign (.names ["kind","lo","hi","to_break","to_continue","depth","late","over"]) (.sub (.loc "taking") (.neg (.k (.int 1)))),
    .assign (.name "stack") (.slice (.loc "stack") (.k .none) (.loc "depth")),
    .assign (.names ["at","is_entry"]) (.ite (.bop true [(.cmp (.loc "kind") .eq (.k (.str [108,111,111,112]))),(.cmp (.sub (.loc "fault") (.k (.int 0))) .eq (.k (.int 4)))]) (.loc "to_continue") (.loc "to_break")),
    .cond (.cmp (.loc "kind") .eq (.k (.str [99,97,116,99,104])))
     [.assign (.name "caught") (.loc "fault"),
     .cond (.cmp (.sub (.loc "fault") (.k (.int 0))) .eq (.k (.int 1)))
      [.assign (.sub (.sub (.loc "world") (.k (.int 2))) (.k (.str [58,58,101,114,114,111,114,73,110,102,111]))) (.ite (.cmp (.sub (.loc "fault") (.k (.int 5))) .ne (.k (.str []))) (.sub (.loc "fault") (.k (.int 5))) (.sub (.loc "fault") (.k (.int 1)))),
       .assign (.sub (.sub (.loc "world") (.k (.int 2))) (.k (.str [58,58,101,114,114,111,114,67,111,100,101]))) (.call (.k (.con (.ref 933))) [(.sub (.loc "fault") (.k (.int 2)))])]
      []]
     []],
  .ret (.list [(.k (.int 0)),(.sub (.loc "stack") (.neg (.k (.int 1))))])]⟩
noncomputable def oE:Fn:=⟨["script","number"],[],
  [.assign (.name "shape") (.call (.k (.con (.ref 853))) [(.loc "script"),(.bin .mul (.k (.int 21)) (.loc "number")),(.loc "number")]),
  .assign (.name "plan") (.call (.k (.con (.ref 902))) [(.loc "script"),(.bin .add (.bin .mul (.k (.int 21)) (.loc "number")) (.k (.int 6))),(.loc "number")]),
  .assign (.name "host") (.call (.k (.con (.ref 586))) []),
  .assign (.name "ops") (.call (.k (.con (.ref 792))) []),
  .assign (.name "more") (.call (.k (.con (.ref 834))) []),
  .copyAll "name" "ops" "more",
  .assign (.name "machine") (.call (.k (.con (.ref 296))) [(.loc "host"),(.loc "ops"),(.k (.con (.ref 895)))]),
  .assign (.name "log") (.list []),
  .expr (.meth (.loc "host") "put" [(.k (.str [114])),(.k (.con (.ref 914))),(.tup [(.list [(.loc "machine")]),(.loc "log"),(.loc "plan")])]),
  .tryExc
   [.assign (.name "told") (.list [(.k (.int 0)),(.call (.k (.con (.ref 307))) [(.loc "machine"),(.call (.k (.con (.ref 888))) [(.loc "shape")])])])]
   84 (.some "fault")
   [.assign (.name "told") (.list [(.attr (.loc "fault") "code"),(.attr (.loc "fault") "value"),(.attr (.loc "fault") "errorcode"),(.attr (.loc "fault") "level"),(.attr (.loc "fault") "ret"),(.attr (.loc "fault") "info"),(.attr (.loc "fault") "extra")])],
  .assign (.name "world") (.tup [(.list []),(.loc "plan"),(.dict [] []),(.list [(.k (.int 0))])]),
  .assign (.name "due") (.call (.k (.con (.ref 959))) [(.loc "world"),(.loc "shape"),(.tup [])]),
  .cond (.bop false [(.cmp (.loc "told") .ne (.ite (.cmp (.sub (.loc "due") (.k (.int 0))) .eq (.k (.int 0))) (.slice (.loc "due") (.k .none) (.k (.int 2))) (.slice (.loc "due") (.k .none) (.k (.int 7))))),(.cmp (.loc "log") .ne (.sub (.loc "world") (.k (.int 0))))])
   [.ret (.k (.bool false))]
   [],
  .each (.name "name") false (.list [(.k (.str [58,58,101,114,114,111,114,73,110,102,111])),(.k (.str [58,58,101,114,114,111,114,67,111,100,101]))])
   [.cond (.bop false [(.cmp (.meth (.loc "host") "has" [(.loc "name")]) .ne (.cmp (.loc "name") .isin (.sub (.loc "world") (.k (.int 2))))),(.bop true [(.meth (.loc "host") "has" [(.loc "name")]),(.cmp (.meth (.loc "host") "read" [(.loc "name")]) .ne (.sub (.sub (.loc "world") (.k (.int 2))) (.loc "name")))])])
     [.ret (.k (.bool false))]
     []],
  .cond (.bop false [(.cmp (.attr (.loc "machine") "steps") .ne (.sub (.sub (.loc "world") (.k (.int 3))) (.k (.int 0)))),(.cmp (.attr (.loc "host") "spent") .ne (.call (.k (.con (.builtin "len"))) [(.loc "log")]))])
   [.ret (.k (.bool false))]
   [],
  .ret (.bop true [(.cmp (.attr (.loc "machine") "acts") .eq (.list [])),(.cmp (.attr (.loc "host") "depth") .eq (.k (.int 0))),(.cmp (.attr (.loc "host") "frame") .is (.k .none))])]⟩
noncomputable def wW:Fn:=⟨["script"],[],
  [.each (.name "number") true (.k (.int 3))
   [.cond (.not (.call (.k (.con (.ref 966))) [(.loc "script"),(.loc "number")]))
     [.ret (.k (.bool false))]
     []],
  .ret (.k (.bool true))]⟩
noncomputable def eH:List (Nat×Fn):= [
 (35,K5),
 (81,Be),
 (102,Bf),
 (123,K6),
 (139,K7),
 (146,Bg),
 (153,Bh),
 (160,K8),
 (167,K9),
 (174,La),
 (188,Bj),
 (202,wH),
 (209,wI),
 (223,Bk),
 (230,Bl),
 (237,Bm),
 (244,Bo),
 (251,wJ),
 (258,Bp),
 (265,wK),
 (272,Bq),
 (279,s7),
 (286,wL),
 (293,Br),
 (307,Bs),
 (321,Bt),
 (342,Bu),
 (364,Bv),
 (371,Lb),
 (378,Bw),
 (385,Bx),
 (392,Ld),
 (399,Lf),
 (406,Lg),
 (420,By),
 (427,Lh),
 (441,Li),
 (448,s8),
 (455,BJ),
 (462,Lj),
 (469,BK),
 (484,BL),
 (491,wM),
 (498,tu),
 (505,BP),
 (512,BR),
 (519,BV),
 (526,wN),
 (533,Lk),
 (540,Ln),
 (547,Lp),
 (555,BW),
 (562,BX),
 (569,Lq),
 (576,Lr),
 (583,BZ),
 (595,Ca),
 (602,qe),
 (609,Ls),
 (617,Cd),
 (624,tB),
 (631,Ce),
 (638,Cg),
 (645,Ci),
 (652,qg),
 (659,wO),
 (666,Cj),
 (673,Lw),
 (680,Ck),
 (687,Cm),
 (694,Lx),
 (701,Ly),
 (708,Lz),
 (715,LK),
 (722,LQ),
 (729,LR),
 (736,Ma),
 (743,Mf),
 (750,Cp),
 (757,Cq),
 (764,Mg),
 (771,Mh),
 (778,Mi),
 (785,Mj),
 (792,Cr),
 (799,Cu),
 (806,Cv),
 (813,Cw),
 (820,Cy),
 (827,Cz),
 (834,CG),
 (841,CJ),
 (848,CK),
 (853,mF),
 (860,CN),
 (867,wQ),
 (874,wR),
 (881,CP),
 (888,qi),
 (895,CQ),
 (902,wU),
 (909,CT),
 (914,CV),
 (921,CW),
 (926,wV),
 (933,CX),
 (940,oh),
 (947,CZ),
 (954,Dc),
 (959,tC),
 (966,oE),
 (973,wW)]
noncomputable def tD:List (Nat×Cls):= [
 (84,⟨true,81,[("__init__",81)],["code","value","errorcode","level","ret","info","is_noted","line","extra"]⟩),
 (105,⟨false,102,[("__init__",102)],["script","back","is_proc","label"]⟩),
 (126,⟨false,123,[("__init__",123)],["kind","words"]⟩),
 (191,⟨false,188,[("__init__",188)],["code","nest","pc","stack","slots","each","caught"]⟩),
 (296,⟨false,223,[("__init__",223),("code_for",230),("enter",237),("drop",244),("give",251),("leave",258),("take",265),("go_on",272),("unwind",279),("step",286),("run",293)],["host","ops","maker","acts","book","pause","steps","text"]⟩),
 (324,⟨false,321,[("__init__",321)],["rows","ranges","names","sources","epoch"]⟩),
 (345,⟨false,342,[("__init__",342)],["kind","value","traces","is_busy","is_element","writes"]⟩),
 (430,⟨false,364,[("__init__",364),("tool",371),("spend",378),("where",385),("run",392),("run_global",399),("call",406),("leave",420),("outcome",427)],["tools","inline","limit","fuel","depth","spent","epoch","frame","coroutine"]⟩),
 (586,⟨false,484,[("__init__",484),("tool",371),("spend",378),("where",385),("run",392),("run_global",399),("call",406),("leave",420),("outcome",427),("has",491),("place",498),("read_var",505),("write_var",512),("read",519),("write",526),("drop",533),("stamp",540),("array",547),("put",555),("remove",562),("add",569),("is_first",576),("begin",583)],["tools","inline","limit","fuel","depth","spent","epoch","frame","coroutine","vars","commands","firsts"]⟩)]
noncomputable def jT:dK:= [
 ("len", .builtin "len"),
 ("error", .ref 139),
 ("str", .type "str"),
 ("isinstance", .builtin "isinstance"),
 ("Nest", .ref 105),
 ("_wall", .ref 21),
 ("_law_range", .ref 848),
 ("tuple", .type "tuple"),
 ("Misused", .ref 51),
 ("cut", .ref 146),
 ("taken", .ref 680),
 ("Act", .ref 191),
 ("Exception", .type "Exception"),
 ("Pause", .ref 126),
 ("Raised", .ref 84),
 ("_law_code", .ref 888),
 ("_law_codes", .ref 933),
 ("_law_digit", .ref 841),
 ("_law_inner", .ref 860),
 ("_law_list", .ref 926),
 ("_law_note", .ref 921),
 ("_law_place", .ref 881),
 ("_law_play", .ref 959),
 ("_law_told", .ref 909),
 ("code_text", .ref 631),
 ("info_of", .ref 638),
 ("join_list", .ref 624),
 ("no_variable", .ref 441),
 ("put_value", .ref 455),
 ("set_slot", .ref 673),
 ("write_quietly", .ref 659),
 ("Code", .ref 324),
 ("Host", .ref 430),
 ("Machine", .ref 296),
 ("OutOfFuel", .ref 63),
 ("SmallHost", .ref 586),
 ("Var", .ref 345),
 ("_law_call", .ref 947),
 ("_law_holds", .ref 954),
 ("_law_main", .ref 853),
 ("_law_maker", .ref 895),
 ("_law_options", .ref 940),
 ("_law_plan", .ref 902),
 ("_law_record", .ref 914),
 ("_law_round", .ref 966),
 ("_law_rows", .ref 874),
 ("_law_starts", .ref 867),
 ("act", .ref 469),
 ("call", .ref 750),
 ("catch_ops", .ref 834),
 ("elements_in", .ref 462),
 ("end_proc", .ref 174),
 ("end_return", .ref 167),
 ("error_options", .ref 645),
 ("escaped", .ref 609),
 ("go", .ref 764),
 ("is_blank", .ref 595),
 ("max", .builtin "max"),
 ("mode_of", .ref 602),
 ("note", .ref 153),
 ("note_caught", .ref 666),
 ("note_row", .ref 160),
 ("note_source", .ref 209),
 ("options_text", .ref 652),
 ("plain_ops", .ref 792),
 ("quote", .ref 617),
 ("run_code", .ref 307),
 ("taker", .ref 202),
 ("var_in", .ref 448),
 ("op_caught", .ref 806),
 ("op_caught_code", .ref 827),
 ("op_caught_options", .ref 820),
 ("op_caught_value", .ref 813),
 ("op_fail", .ref 785),
 ("op_invoke", .ref 757),
 ("op_join", .ref 743),
 ("op_jump", .ref 778),
 ("op_load", .ref 701),
 ("op_load_element", .ref 715),
 ("op_load_name", .ref 708),
 ("op_mark_ok", .ref 799),
 ("op_pop", .ref 694),
 ("op_push", .ref 687),
 ("op_start", .ref 771),
 ("op_store", .ref 722),
 ("op_store_element", .ref 736),
 ("op_store_name", .ref 729),
 ("range", .type "range")]
class Z9 where
 lst:Nat→Option (List Int)
noncomputable def tab[Z9]:Tab:=⟨fun a=>eH.lookup a,fun a=>tD.lookup a,jR jT,Z9.lst⟩
theorem Ys[Z9]:tab.lst=Z9.lst:=rfl
end Mine
namespace Mine
open PySem PySem.Calls PyProof.Rows
open PySem.W
noncomputable def tE(K:Frag)(p:String×Value):Bool:=pU p.2 && (match nsIn K mainGlobals (nm p.1) with
 | some (some u)=>u==p.2
 | some none=>bootBuiltins (nm p.1)==some p.2 && !(nm p.1==("__name__":Str))
 | none=>false)
noncomputable def Dd(K:Frag):Bool:=tD.all fun p=>s6 K p.1 p.2 && keepIn K (.ref p.1) && (eH.lookup p.1).isNone && (eH.lookup p.2.init).isSome
noncomputable def De(K:Frag):Bool:=jT.all (tE K) && (nsIn K mainGlobals (nm "law")==some (some (.ref 973)))
noncomputable def tG(K:Frag)(l:List (Nat×Fn)):Bool:=l.all fun p=>mC K jT p.1 p.2
noncomputable def tH(K:Frag):Bool:=tD.all (fun p=>s6 K p.1 p.2 && keepIn K (.ref p.1) && (eH.lookup p.1).isNone && (eH.lookup p.2.init).isSome) && jT.all (tE K) && (nsIn K mainGlobals (nm "law")==some (some (.ref 973))) && eH.all (fun p=>mC K jT p.1 p.2 && keepIn K (.ref p.1))
theorem Ml{K:Frag}(c:Dd K=true)(g:De K=true)(a:tG K (eH.take 45)=true)(b:tG K (eH.drop 45)=true):tH K=true:=by
 obtain ⟨g,l⟩:=Bool.and_eq_true_iff.mp g
 have f:eH.all (fun p=>mC K jT p.1 p.2)=true:=by
  rw [←List.take_append_drop 45 eH,List.all_append]
  exact Bool.and_eq_true_iff.mpr ⟨a,b⟩
 have f:eH.all (fun p=>mC K jT p.1 p.2 && keepIn K (.ref p.1))=true:=List.all_eq_true.mpr fun p hp=>Bool.and_eq_true_iff.mpr ⟨List.all_eq_true.mp f p hp,K1 (List.all_eq_true.mp f p hp)⟩
 exact Bool.and_eq_true_iff.mpr ⟨Bool.and_eq_true_iff.mpr ⟨Bool.and_eq_true_iff.mpr ⟨c,g⟩,l⟩,f⟩
noncomputable def qj:List Nat:= [2,3,34,35,73,74,80,81,83,84,95,101,102,104,105,122,123,125,126,131,132,138,139,145,146,152,153,159,160,166,167,173,174,187,188,190,191,201,202,208,209,222,223,229,230,236,237,243,244,250,251,257,258,264,265,271,272,278,279,285,286,292,293,295,296,306,307,320,321,323,324,341,342,344,345,357,363,364,370,371,377,378,384,385,391,392,398,399,405,406,419,420,426,427,429,430,440,441,447,448,454,455,461,462,468,469,477,483,484,490,491,497,498,504,505,511,512,518,519,525,526,532,533,539,540,546,547,548,554,555,561,562,568,569,575,576,582,583,585,586,594,595,601,602,608,609,610,616,617,623,624,630,631,637,638,644,645,651,652,658,659,665,666,672,673,679,680,686,687,693,694,700,701,707,708,714,715,721,722,728,729,735,736,742,743,749,750,756,757,763,764,770,771,777,778,784,785,791,792,798,799,805,806,812,813,819,820,826,827,833,834,840,841,847,848,852,853,859,860,866,867,873,874,880,881,887,888,894,895,901,902,908,909,913,914,920,921,925,926,932,933,939,940,946,947,953,954,958,959,965,966,972,973]
theorem Mm(w:World)(os:OsState):(nF (stepT (denote treeTable) pw w) (stepOk (boot_heap w.params).objs.size ((boot_heap w.params).nsMap mainGlobals "__annotations__")) 12510 (S0 w os) (topStub pw)).map
  (fun s=>((staticsOk (importedModules pw.main.body) (boot_heap w.params) s.abs.heap && namesBound pw s.abs.heap && gensDone s.abs && laidKept (boot_heap w.params) s.abs.heap),openSeen q0 rT (importedModules pw.main.body) (fun zz=>true) true s.abs,De (jM s.tree qj)))=some (true,openGood q0 rT,true):=by
 rw [PySem.W.Fast.te14364793385576792824,PySem.W.Fast.te10156331382660048174,PySem.W.Fast.te11892475500146522536,PySem.W.Fast.te6613529449190102663,PySem.W.Fast.te4187177175401517315]
 kernel_rfl
theorem Mp(w:World)(os:OsState):(nF (stepT (denote treeTable) pw w) (stepOk (boot_heap w.params).objs.size ((boot_heap w.params).nsMap mainGlobals "__annotations__")) 12510 (S0 w os) (topStub pw)).map
  (fun s=>(qj.all (Nat.blt · s.n),Dd (jM s.tree qj),tG (jM s.tree qj) (eH.take 45)))=some (true,true,true):=by
 rw [PySem.W.Fast.te14364793385576792824,PySem.W.Fast.te10156331382660048174,PySem.W.Fast.te11892475500146522536,PySem.W.Fast.te6613529449190102663]
 kernel_rfl
theorem Mq(w:World)(os:OsState):(nF (stepT (denote treeTable) pw w) (stepOk (boot_heap w.params).objs.size ((boot_heap w.params).nsMap mainGlobals "__annotations__")) 12510 (S0 w os) (topStub pw)).map
  (fun s=>tG (jM s.tree qj) (eH.drop 45))=some true:=by
 rw [PySem.W.Fast.te14364793385576792824,PySem.W.Fast.te10156331382660048174,PySem.W.Fast.te11892475500146522536,PySem.W.Fast.te6613529449190102663]
 kernel_rfl
theorem Mr(P:Params):((boot_heap P).isNs mainGlobals && (0==0))=true:=by kernel_rfl
noncomputable def Y0(h:Heap):Prop:=∃K:Frag,tH K=true∧K.In h
theorem Ms(w:World)(os:OsState):(S0 w os).abs=⟨boot_heap w.params,#[],boot_drawn,boot_toks,os⟩:=by
 show (⟨absHeap (T0 w.params) (boot_heap w.params).objs.size (boot_heap w.params).life,_,_,_,_⟩:Shared)=_
 rw [JR]
 rfl
theorem Mt{p q:Program}{loose:List Str}{N tk:Nat}{w:World}{h:Heap}{dr:Drawn}{os:OsState}{s:Shared}(z:(h.isNs mainGlobals && (0==0))=true)
  (r:topRun treeTable p w h.objs.size (h.nsMap mainGlobals "__annotations__") N ⟨h,#[],dr,tk,os⟩ (topStub p)=some s)
  (l1:(staticsOk (importedModules p.main.body) h s.heap && namesBound p s.heap && gensDone s && laidKept h s.heap)=true) (l2:openSeen q loose (importedModules p.main.body) (fun zz=>true) true s=openGood q loose) (y:Y0 s.heap):
  (topFrom treeTable p w N ⟨h,#[],dr,tk,os⟩).map (fun s=>(openSeen q loose (importedModules p.main.body) (fun zz=>true) true s,Y0 s.heap))=some (openGood q loose,True):=by
 unfold topFrom
 show Option.map _ (match h.isNs mainGlobals && (0==0) with | true=>_ | false=>none)=_
 rw [z,r]
 dsimp only
 show Option.map _ (match staticsOk (importedModules p.main.body) h s.heap && namesBound p s.heap && gensDone s && laidKept h s.heap with
  | true=>some s
  | false=>none)=_
 rw [l1]
 exact congrArg some (Prod.ext l2 (eq_true y))
theorem Mu:LeftO pw q0 rT (fun zz=>true) (fun s=>Y0 s.heap) (fun zz=>True) 12510:=fun w=>by
 obtain ⟨s,hs,e⟩:=Option.map_eq_some_iff.mp (JT w)
 unfold openEnds
 rw [hs,Option.bind_some]
 obtain ⟨heap,gens,drawn,toks,os⟩:=s
 obtain ⟨rfl,e⟩:=Prod.mk.inj e
 obtain ⟨rfl,e⟩:=Prod.mk.inj e
 obtain ⟨rfl,rfl⟩:=Prod.mk.inj e
 obtain ⟨s',h1,a⟩:=Option.map_eq_some_iff.mp (Mm w os)
 have b:=Mp w os
 have c:=Mq w os
 rw [h1,Option.map_some] at b c
 have b:=Option.some.inj b
 have c:=Option.some.inj c
 have r:=zM h1
 rw [Ms] at r
 exact Mt (Mr w.params) r (congrArg (·.1) a) (congrArg (·.2.1) a) ⟨_,Ml (congrArg (·.2.1) b) (congrArg (·.2.2) a) (congrArg (·.2.2) b) c,JS (congrArg (·.1) b)⟩
theorem Df:(defOf q0 nG.row.name).isSome=true:=by kernel_rfl
noncomputable def tK:DefRec×List (Str×Expr):=(defOf q0 nG.row.name).get Df
theorem Mv:defOf q0 nG.row.name=some (tK.1,tK.2):=(Option.some_get Df).symm
theorem Mw(call:WalkO q0 rT (fun zz zz=>True) (fun zz=>Y0) nG.row.toRowW tK.1 tK.2 fun f vs=>PySem.call f vs):nG.Holds:=
 holds_law JV fun said=>holds_open (Xt:=fun zz=>true) (XP:=fun zz zz=>True) (Ya:=fun zz=>True) (YP:=fun zz=>Y0) Mu (fun zz zz e=>of_eq_true e) (fun zz zz zz y k=>y.elim fun K y=>⟨K,y.1,Frag.In.keeps y.2 k⟩) (fun zz zz=>trivial) (fun zz zz zz zz zz=>trivial)
  Mv (by kernel_rfl) (by kernel_rfl) (fun zz zz=>recFacts_nil rfl) rfl said (by kernel_rfl) ⟨rfl,rfl,rfl,rfl,rfl,by decide+kernel⟩ ⟨[.list []],by decide+kernel,by decide+kernel⟩ call
inductive SB where
 | s (x:Str)
 | b (x:Bool)
deriving DecidableEq
noncomputable def SB.is:SB→Value→Bool
 | .s x, .str y _=>y==x
 | .b x, .bool y=>y==x
 | _,_=>false
theorem SB.shape{k:SB}{v:Value}(h:SB.is k v=true):(∃x t,k= .s x∧v= .str x t)∨∃x,k= .b x∧v= .bool x:=by
 cases k<;>cases v<;>try exact nomatch (h:false=true)
 ·exact .inl ⟨_,_,rfl,by rw [eq_of_beq h]⟩
 ·exact .inr ⟨_,rfl,by rw [eq_of_beq h]⟩
section
variable{prog:Program}{w:World}{A:Around}{E:Value→Shared→Prop}{s:Shared}
theorem Mx{b:Bool}{Q:Int→Shared→Prop}(h:Q (hashInt (if b then 1 else 0)) {s with toks:=s.toks+1}):
  wpAny (model prog w) A (pyHash (.bool b)) Q E s:=by
 have hr:=rawHash_range (if b then 1 else 0)
 have hT:s.TypeIs (.bool b) "bool":=rfl
 unfold pyHash
 have hv: [Value.bool b].any Value.onHeap=false:=rfl
 refine wpAny_bind ?_
 rw [cRoomFor,if_neg (by rw [hv];exact Bool.false_ne_true)];refine wpAny_pure ?_
 refine wpAny_bind (wpAny_specialOf hT F.slot_bool_hash.lookup ?_)
 show wpAny _ _ (if (some (Value.builtin "int.__hash__")==some Value.none)=true then _ else _) Q E s
 rw [if_neg (by rw [beq_builtin_none];exact Bool.false_ne_true)]
 refine wpAny_bind (wpAny_specialOf hT F.slot_bool_hash.lookup ?_)
 show wpAny _ _ (callSpecialIfBoundUnlessNone? (.bool b) "__hash__" _>>=_) Q E s
 refine wpAny_bind (wpAny_callSpecialIfBoundUnlessNone?_slot hT F.slot_bool_hash
  (wpAny_call_entry F.slot_bool_hash hT F.entry_int_hash
   (show wpAny _ _ (do ret (←mkInt (rawHash (if b then 1 else 0)))) _ _ s from wpAny_ret_mkInt ?_) (F.args_int_hash_1 _)))
 show wpAny _ _ (if (decide (-(2:Int) ^ 63≤rawHash (if b then 1 else 0)) && decide (rawHash (if b then 1 else 0)<2 ^ 63))=true then _ else _) Q E _
 rw [if_pos (by rw [decide_eq_true hr.1,decide_eq_true hr.2];rfl)]
 exact wpAny_pure h
end
theorem My(k:SB)(x:Str)(t:Tok)(v:Value)(h:SB.is k (.str x t)=true):SB.is k v=v.isStr x:=by
 rcases SB.shape h with ⟨y,u,rfl,e⟩ | ⟨y,rfl,e⟩
 ·cases e
  cases v<;>rfl
 ·cases e
noncomputable def oF(prog:Program)(w:World):KeyKind prog w SB where
 is:=SB.is
 hash:=fun | .s x=>hashStr w x | .b b=>hashInt (if b then 1 else 0)
 inj:=fun v a b ha hb=>by
  rcases SB.shape ha with ⟨x,t,rfl,rfl⟩ | ⟨x,rfl,rfl⟩<;>rcases SB.shape hb with ⟨y,u,rfl,e⟩ | ⟨y,rfl,e⟩<;>cases e<;>rfl
 byValue:=fun k v h=>by rcases SB.shape h with ⟨x,t,rfl,rfl⟩ | ⟨x,rfl,rfl⟩<;>rfl
 pyHash:=fun hv h=>by rcases SB.shape hv with ⟨x,t,rfl,rfl⟩ | ⟨x,rfl,rfl⟩;(exact wpAny_pyHash_str h);(exact Mx h)
 eqBool:=fun {A E s a b u v Q} hu hv h=>by
  rcases SB.shape hu with ⟨x,t,rfl,rfl⟩ | ⟨x,rfl,rfl⟩<;>rcases SB.shape hv with ⟨y,t',rfl,rfl⟩ | ⟨y,rfl,rfl⟩
  ·rw [show decide (SB.s x=SB.s y)=decide (x=y) from decide_eq_decide.2 ⟨fun e=>by cases e;rfl,congrArg _⟩] at h
   exact wpAny_eqBool_str h
  ·rw [decide_eq_false fun e=>nomatch e] at h
   exact SeqAt.EqAt.str_bool (A:=A) (s:=s) x t y prog w E Q h
  ·rw [decide_eq_false fun e=>nomatch e] at h
   exact SeqAt.EqAt.bool_str (A:=A) (s:=s) x y t' prog w E Q h
  ·refine SeqAt.EqAt.bool_bool (A:=A) (s:=s) x y prog w E Q ?_
   have e:(x==y)=decide (SB.b x=SB.b y):=decide_eq_decide.2 ⟨congrArg _,fun e=>by cases e;rfl⟩
   rw [e];exact h
 «strs»:=My
abbrev ak:=Addr→Option Addr
noncomputable def aF(s:Shared)(h:Heap)(t:Nat):Shared:=⟨h,s.gens,s.drawn,t,s.os⟩
noncomputable def aJ(s:Txt):Str:=⟨s.toArray⟩
theorem wX(x:String):Str.ofString x=aJ (S x):=by
 unfold Str.ofString aJ S
 rw [cpsOfBytes_string]
theorem Dg:∀{a b:List Char},a.map Char.toNat=b.map Char.toNat→a=b
 | [],[],_=>rfl
 | [],_::_,e=>by cases e
 | _::_,[],e=>by cases e
 | c::a,d::b,e=>by
  rw [List.map_cons,List.map_cons] at e
  injection e with e1 e2
  rw [Dg e2,Char.toNat_inj.mp e1]
theorem Mz{x y:String}(e:S x=S y):x=y:=String.toList_inj.mp (Dg e)
theorem tL{x y:Txt}(e:aJ x=aJ y):x=y:=by
 unfold aJ at e
 injection e with e
 simpa using congrArg Array.toList e
theorem lu{x y:String}(e:nm x=nm y):x=y:=Mz (tL (by rw [←wX,←wX];exact e))
mutual
inductive VR(own:ak)(h:Heap):V→Value→Prop
 | none:VR own h .none .none
 | bool (b):VR own h (.bool b) (.bool b)
 | int (i t):VR own h (.int i) (.int i t)
 | str (s t):VR own h (.str s) (.str (aJ s) t)
 | con {v}:pU v=true→VR own h (.con v) v
 | ref (a):VR own h (.ref a) (.ref a)
 | tup {xs a vs n}:own a= .none→IsT h a vs n→aB own h xs vs.toList→VR own h (.tup xs) (.ref a)
inductive aB(own:ak)(h:Heap):List V→List Value→Prop
 | nil:aB own h [] []
 | cons {x v xs vs}:VR own h x v→aB own h xs vs→aB own h (x::xs) (v::vs)
end
section
variable{own:ak}{h:Heap}{v:Value}{motive:Value→Prop}
@[elab_as_elim] theorem VR.k_none (r:VR own h .none v) (k:motive .none):motive v:=by cases r;exact k
@[elab_as_elim] theorem VR.k_bool {b:Bool} (r:VR own h (.bool b) v) (k:motive (.bool b)):motive v:=by cases r;exact k
@[elab_as_elim] theorem VR.k_int {i:Int} (r:VR own h (.int i) v) (k:∀t,motive (.int i t)):motive v:=by cases r;exact k _
@[elab_as_elim] theorem VR.k_str {s:Txt} (r:VR own h (.str s) v) (k:∀t,motive (.str (aJ s) t)):motive v:=by cases r;exact k _
@[elab_as_elim] theorem VR.k_con {w:Value} (r:VR own h (.con w) v) (k:pU w=true→motive w):motive v:=by cases r;exact k ‹_›
@[elab_as_elim] theorem VR.k_ref {a:Nat} (r:VR own h (.ref a) v) (k:motive (.ref a)):motive v:=by cases r;exact k
@[elab_as_elim] theorem VR.k_tup {xs:List V} (r:VR own h (.tup xs) v) (k:∀(a:Addr) (vs:Array Value) (n:Nat),own a=Option.none→IsT h a vs n→aB own h xs vs.toList→motive (.ref a)):motive v:=by cases r;exact k _ _ _ ‹_› ‹_› ‹_›
end
theorem aB.ind{own:ak}{h:Heap}{P:List V→List Value→Prop}(n:P [] [])(c:∀{x v xs vs},VR own h x v→aB own h xs vs→P xs vs→P (x::xs) (v::vs)){xs:List V}{vs:List Value}(r:aB own h xs vs):P xs vs:=
 aB.rec (motive_1:=fun zz zz zz=>True) (motive_2:=fun xs vs zz=>P xs vs) trivial (fun zz=>trivial) (fun zz zz=>trivial) (fun zz zz=>trivial) (fun zz=>trivial) (fun zz=>trivial) (fun zz zz zz zz=>trivial) n (fun a r zz=>c a r) r
theorem aB.len{own:ak}{h:Heap}{xs:List V}{vs:List Value}(r:aB own h xs vs):xs.length=vs.length:=r.ind (P:=fun xs vs=>xs.length=vs.length) rfl fun zz zz=>congrArg Nat.succ
theorem VR.e_none{own:ak}{h:Heap}{v:Value}(r:VR own h .none v):v= .none:=r.k_none rfl
theorem VR.e_int{own:ak}{h:Heap}{v:Value}{i:Int}(r:VR own h (.int i) v):∃t,v= .int i t:=r.k_int fun t=>⟨t,rfl⟩
theorem VR.e_tup{own:ak}{h:Heap}{v:Value}{xs:List V}(r:VR own h (.tup xs) v):∃a,v= .ref a:=r.k_tup fun a zz zz zz zz zz=>⟨a,rfl⟩
theorem VR.e_con{own:ak}{h:Heap}{v w:Value}(r:VR own h (.con w) v):v=w:=r.k_con fun zz=>rfl
theorem VR.e_ref{own:ak}{h:Heap}{v:Value}{a:Nat}(r:VR own h (.ref a) v):v= .ref a:=r.k_ref rfl
section
variable{own:ak}{h:Heap}{us:List Value}{motive:List Value→Prop}
@[elab_as_elim] theorem aB.k_nil (r:aB own h [] us) (k:motive []):motive us:=by cases r;exact k
@[elab_as_elim] theorem aB.k_cons {x:V} {xs:List V} (r:aB own h (x::xs) us) (k:∀v vs,VR own h x v→aB own h xs vs→motive (v::vs)):motive us:=by cases r;exact k _ _ ‹_› ‹_›
@[elab_as_elim] theorem aB.k_one {x:V} (r:aB own h [x] us) (k:∀v,VR own h x v→motive [v]):motive us:=r.k_cons fun zz zz a r=>r.k_nil (k _ a)
@[elab_as_elim] theorem aB.k_two {x y:V} (r:aB own h [x,y] us) (k:∀v w,VR own h x v→VR own h y w→motive [v,w]):motive us:=r.k_cons fun zz zz a r=>r.k_one fun zz b=>k _ _ a b
end
structure FM(own:ak)(h:Heap)(fs:List (String×V))(m:Str→Option Value):Prop where
 has:∀n x,Mine.get fs n=some x→∃v,m (nm n)=some v∧VR own h x v
 only:∀y,m y≠none→∃n x,y=nm n∧Mine.get fs n=some x
noncomputable def gP(o:Obj):Prop:=o.cls= .type "tuple"∧∃xs n,o.data= .seq xs n
noncomputable def wY(o:Obj):Prop:=∃es ep,o.data= .dict es ep
noncomputable def dM(own:ak)(h:Heap)(YD:ak)(h':Heap):Prop:=
 ∀a o,h.get? a=some o→own a= .none→gP o→YD a= .none∧h'.get? a=some o
theorem IsT.keeps{own YD:ak}{h h':Heap}{a:Addr}{vs:Array Value}{n:Nat}(k:dM own h YD h')(e:own a=none)(x:IsT h a vs n):YD a=none∧IsT h' a vs n:=k a _ x e ⟨rfl,_,_,rfl⟩
theorem VR.keep{own YD:ak}{h h':Heap}(k:dM own h YD h'){x:V}{v:Value}(r:VR own h x v):VR YD h' x v:=
 VR.rec (motive_1:=fun x v zz=>VR YD h' x v) (motive_2:=fun xs vs zz=>aB YD h' xs vs) .none .bool .int .str .con .ref (fun e x zz r=> .tup (IsT.keeps k e x).1 (IsT.keeps k e x).2 r) .nil (fun zz zz=> .cons) r
theorem aB.keep{own YD:ak}{h h':Heap}(k:dM own h YD h'){xs:List V}{vs:List Value}(r:aB own h xs vs):aB YD h' xs vs:=r.ind (P:=aB YD h') .nil fun a zz=> .cons (a.keep k)
theorem FM.keep{own YD:ak}{h h':Heap}(k:dM own h YD h'){fs:List (String×V)}{m:Str→Option Value}(f:FM own h fs m):FM YD h' fs m:=
 ⟨fun n x e=>by obtain ⟨v,a,b⟩:=f.has n x e;exact ⟨v,a,b.keep k⟩,f.only⟩
theorem FM.nil{own:ak}{h:Heap}:FM own h [] fun zz=>none:=⟨fun zz zz e=>(nomatch e),fun zz e=>absurd rfl e⟩
theorem dD{v:V}{a:Nat}(h:cX v=some a):v= .ref a:=by
 induction v using V.casesOn with
 | ref x=>exact congrArg V.ref (Option.some.inj h)
 | _=>exact aG h
theorem dN{v:V}{i:Int}(h:cY v=some i):v= .int i:=by
 induction v using V.casesOn with
 | int x=>exact congrArg V.int (Option.some.inj h)
 | _=>exact aG h
theorem mG{v:V}{b:Bool}(h:kZ v=some b):v= .bool b:=by
 induction v using V.casesOn with
 | bool x=>exact congrArg V.bool (Option.some.inj h)
 | _=>exact aG h
theorem lA{v:V}{x:Txt}(h:iR v=some x):v= .str x:=by
 induction v using V.casesOn with
 | str x=>exact congrArg V.str (Option.some.inj h)
 | _=>exact aG h
theorem Dh{v:Value}{a:Nat}(h:vN v=some a):v= .ref a:=by
 induction v using PySem.Value.casesOn with
 | ref x=>exact congrArg Value.ref (Option.some.inj h)
 | _=>exact aG h
theorem jU{vs:List V}{x:V}(h:jk vs=some x):vs= [x]:=by
 induction vs using List.casesOn with
 | nil=>exact aG h
 | cons a r=>induction r using List.casesOn with
  | nil=>cases h;rfl
  | cons=>exact aG h
theorem tM{vs:List V}{p:V×V}(h:pK vs=some p):vs= [p.1,p.2]:=by
 induction vs using List.casesOn with
 | nil=>exact aG h
 | cons a r=>induction r using List.casesOn with
  | nil=>exact aG h
  | cons b r=>induction r using List.casesOn with
   | nil=>cases h;rfl
   | cons=>exact aG h
theorem dO{o:Option O}{xs:List V}(h:bN o=some xs):o=some (.list xs):=by
 induction o using Option.casesOn with
 | none=>exact aG h
 | some o=>induction o using Mine.O.casesOn with
  | list x=>exact congrArg (fun x=>some (O.list x)) (Option.some.inj h)
  | _=>exact aG h
theorem ql{o:Option O}{es:List (V×V)}(h:lq o=some es):o=some (.dict es):=by
 induction o using Option.casesOn with
 | none=>exact aG h
 | some o=>induction o using Mine.O.casesOn with
  | dict x=>exact congrArg (fun x=>some (O.dict x)) (Option.some.inj h)
  | _=>exact aG h
theorem wZ{o:Option O}{c:Nat}(h:excO o=some c):∃fs,o=some (.exc c fs):=by
 induction o using Option.casesOn with
 | none=>exact aG h
 | some o=>induction o using Mine.O.casesOn with
  | exc x y=>exact ⟨y,congrArg (fun x=>some (O.exc x y)) (Option.some.inj h)⟩
  | _=>exact aG h
theorem w5{v:V}{a:List V}(h:jm v=some a):v= .tup a:=by
 induction v using V.casesOn with
 | tup x=>exact congrArg V.tup (Option.some.inj h)
 | _=>exact aG h
theorem mH{a:V}(h:isNone a=true):a= .none:=by induction a using V.casesOn<;>first | rfl | exact bz h
theorem cg{α β:Type}{o:Option α}{f:α→Option β}{y:β}{P:Prop}(h:o.bind f=some y)(k:∀x,o=some x→f x=some y→P):P:=by
 induction o using Option.casesOn with
 | none=>exact aG h
 | some x=>exact k x rfl h
theorem jV{α β:Type}{o:Option α}{f:α→β}{y:β}{P:Prop}(h:o.map f=some y)(k:∀x,o=some x→f x=y→P):P:=by
 induction o using Option.casesOn with
 | none=>exact aG h
 | some x=>exact k x rfl (Option.some.inj h)
theorem fV{α:Type}{b:Bool}{o:Option α}{x:α}(h:dC b o=some x):b=true∧o=some x:=by
 induction b using Bool.casesOn with
 | false=>exact aG h
 | true=>exact ⟨rfl,h⟩
theorem MF{s:Txt}{c:Nat}(h:vK s=some c):s= [c]:=by
 induction s using List.casesOn with
 | nil=>exact aG h
 | cons a r=>induction r using List.casesOn with
  | nil=>cases h;rfl
  | cons=>exact aG h
theorem MJ{v:V}{a:Value}(h:lY v=some a):v= .con a:=by
 induction v using V.casesOn with
 | con x=>exact congrArg V.con (Option.some.inj h)
 | _=>exact aG h
theorem MK{o:Option O}{c:Nat}(h:vP o=some c):∃fs,o=some (.inst c fs):=by
 induction o using Option.casesOn with
 | none=>exact aG h
 | some o=>induction o using Mine.O.casesOn with
  | inst x y=>exact ⟨y,congrArg (fun x=>some (O.inst x y)) (Option.some.inj h)⟩
  | _=>exact aG h
theorem xd{H:MH}{v:V}{items:List V}{src:MH→Prop}{P:Prop}(hi:fO H false v=some (items,src))
  (kl:∀a,v= .ref a→H a=some (.list items)→(src=fun H'=>H' a=some (.list items))→P) (kt:v= .tup items→(src=fun zz=>True)→P):P:=by
 induction v using V.casesOn with
 | ref a=>
  refine jV hi fun xs hx e=> ?_
  obtain ⟨e1,e2⟩:=Prod.mk.inj e
  subst e1;subst e2
  exact kl a rfl (dO hx) rfl
 | tup xs=>
  obtain ⟨e1,e2⟩:=Prod.mk.inj (Option.some.inj hi)
  subst e1;subst e2
  exact kt rfl rfl
 | _=>exact aG hi
theorem jW(y:String)(v:V)(r:List (String×V))(x:String):Mine.get ((y,v)::r) x=if y=x then some v else Mine.get r x:=by
 show (match y==x with | true=>some v | false=>Mine.get r x)=_
 by_cases e:y=x
 ·rw [if_pos e,beq_iff_eq.mpr e]
 ·rw [if_neg e,beq_eq_false_iff_ne.mpr e]
theorem MN(y:String)(u:V)(r:List (String×V))(x:String)(v:V):put ((y,u)::r) x v=if y=x then (y,v)::r else (y,u)::put r x v:=by
 show (match y==x with | true=>(y,v)::r | false=>(y,u)::put r x v)=_
 by_cases e:y=x
 ·rw [if_pos e,beq_iff_eq.mpr e]
 ·rw [if_neg e,beq_eq_false_iff_ne.mpr e]
theorem cD{fs:List (String×V)}{n m:String}{v:V}:Mine.get (put fs n v) m=if n=m then some v else Mine.get fs m:=by
 induction fs with
 | nil=>rw [show put [] n v= [(n,v)] from rfl,jW]
 | cons p r ih=>
  obtain ⟨y,u⟩:=p
  rw [MN]
  by_cases e:y=n
  ·subst e;rw [if_pos rfl,jW,jW];split<;>rfl
  ·rw [if_neg e,jW,jW,ih]
   by_cases q:y=m
   ·subst q;rw [if_pos rfl,if_pos rfl,if_neg (Ne.symm e)]
   ·rw [if_neg q,if_neg q]
theorem FM.put{own:ak}{h:Heap}{fs:List (String×V)}{m:Str→Option Value}(f:FM own h fs m){n:String}{x:V}{v:Value}(r:VR own h x v):FM own h (put fs n x) fun y=>if y=nm n then some v else m y:=
 ⟨fun k z e=>by
  rw [cD] at e
  by_cases q:n=k
  ·subst q;rw [if_pos rfl] at e;obtain rfl:=Option.some.inj e;exact ⟨v,if_pos rfl,r⟩
  ·rw [if_neg q] at e
   obtain ⟨u,a,b⟩:=f.has k z e
   exact ⟨u,(if_neg fun z=>q (lu z).symm).trans a,b⟩,
  fun y e=>by
  by_cases q:y=nm n
  ·exact ⟨n,x,q,by rw [cD,if_pos rfl]⟩
  ·rw [if_neg q] at e
   obtain ⟨k,z,a,b⟩:=f.only y e
   subst a
   exact ⟨k,z,rfl,by rw [cD,if_neg fun z=>q (by rw [z]),b]⟩⟩
theorem aB.length{own:ak}{h:Heap}{xs:List V}{vs:List Value}(r:aB own h xs vs):xs.length=vs.length:=r.len
theorem aB.append{own:ak}{h:Heap}{xs ys:List V}{vs ws:List Value}(r:aB own h xs vs)(b:aB own h ys ws):aB own h (xs++ys) (vs++ws):=r.ind (P:=fun xs vs=>aB own h (xs++ys) (vs++ws)) b fun a zz=> .cons a
theorem aB.get{own:ak}{h:Heap}{xs:List V}{vs:List Value}(r:aB own h xs vs):∀{i:Nat} {x:V},xs[i]? =some x→∃v,vs[i]? =some v∧VR own h x v:=
 r.ind (P:=fun xs vs=>∀{i:Nat} {x:V},xs[i]? =some x→∃v,vs[i]? =some v∧VR own h x v) (fun e=>aG e) fun {_ v _ _} a _ ih i x e=>by
  induction i using Nat.casesOn with
  | zero=>exact ⟨v,rfl,Option.some.inj e▸a⟩
  | succ i=>exact ih (i:=i) e
theorem aB.take{own:ak}{h:Heap}{xs:List V}{vs:List Value}(r:aB own h xs vs):∀n,aB own h (xs.take n) (vs.take n):=
 r.ind (P:=fun xs vs=>∀n,aB own h (xs.take n) (vs.take n)) (fun n=>by rw [List.take_nil,List.take_nil];exact .nil) fun a zz ih n=>by
  induction n using Nat.casesOn with
  | zero=>exact .nil
  | succ n=>exact .cons a (ih n)
theorem aB.drop{own:ak}{h:Heap}{xs:List V}{vs:List Value}(r:aB own h xs vs):∀n,aB own h (xs.drop n) (vs.drop n):=
 r.ind (P:=fun xs vs=>∀n,aB own h (xs.drop n) (vs.drop n)) (fun n=>by rw [List.drop_nil,List.drop_nil];exact .nil) fun a r ih n=>by
  induction n using Nat.casesOn with
  | zero=>exact .cons a r
  | succ n=>exact ih n
theorem aB.set{own:ak}{h:Heap}{y:V}{w:Value}(b:VR own h y w){xs:List V}{vs:List Value}(r:aB own h xs vs):∀n,aB own h (xs.set n y) (vs.set n w):=
 r.ind (P:=fun xs vs=>∀n,aB own h (xs.set n y) (vs.set n w)) (fun zz=> .nil) fun a r ih n=>by
  induction n using Nat.casesOn with
  | zero=>exact .cons b r
  | succ n=>exact .cons a (ih n)
theorem aB.dropLast{own:ak}{h:Heap}{xs:List V}{vs:List Value}(r:aB own h xs vs):aB own h xs.dropLast vs.dropLast:=by
 rw [List.dropLast_eq_take,List.dropLast_eq_take,r.length];exact r.take _
theorem aB.getLast{own:ak}{h:Heap}{xs:List V}{vs:List Value}(r:aB own h xs vs){x:V}(e:xs.getLast? =some x):∃v,vs.getLast? =some v∧VR own h x v:=by
 rw [List.getLast?_eq_getElem?] at e ⊢
 rw [←r.length];exact r.get e
noncomputable def SB.val:SB→V
 | .s x=> .str x.cps.toList
 | .b x=> .bool x
inductive aU(prog:Program)(w:World)(T:Tab)(own:ak)(h:Heap)(a:Addr):O→Prop
 | list {xs:List V} {vs:Array Value} {n:Nat}:IsL h a vs n→aB own h xs vs.toList→aU prog w T own h a (.list xs)
 | inst {c:Nat} {fs:List (String×V)} {d:Addr} {m:Str→Option Value} {o:Obj}:h.get? a=some o→o.cls= .ref c→o.dict=some d→o.data= .plain→own d=some a→d≠a→h.Ns1 d m→FM own h fs m→
   (∀n x,Mine.get fs n=some x→gO T c n=true)→(T.cls c).any (!·.isExc)=true→aU prog w T own h a (.inst c fs)
 | exc {c:Nat} {fs:List (String×V)} {d:Addr} {m:Str→Option Value} {o:Obj} {vs:Array Value}:h.get? a=some o→o.cls= .ref c→o.dict=some d→o.data= .fields vs→own d=some a→d≠a→h.Ns1 d m→FM own h fs m→
   (∀n x,Mine.get fs n=some x→gO T c n=true)→(T.cls c).any (·.isExc)=true→2<vs.size→vs[2]? =some .none→
   (vs[1]? =some .none∨∃t ot ts,vs[1]? =some (.ref t)∧own t=some a∧t≠a∧h.get? t=some ot∧ot.data= .fields ts∧3<ts.size)→aU prog w T own h a (.exc c fs)
 | exc0 {c:Nat} {o:Obj} {vs:Array Value}:h.get? a=some o→o.cls= .ref c→o.dict=none→o.data= .fields vs→(T.cls c).any (·.isExc)=true→2<vs.size→vs[2]? =some .none→
   (vs[1]? =some .none∨∃t ot ts,vs[1]? =some (.ref t)∧own t=some a∧t≠a∧h.get? t=some ot∧ot.data= .fields ts∧3<ts.size)→aU prog w T own h a (.exc c [])
 | dictS {es:List (V×V)} {kvs:List (Str×Value)}:h.DictOf (strKind prog w) a kvs→(a==sysModules)=false→es.map (·.1)=kvs.map (fun p=>V.str p.1.cps.toList)→aB own h (es.map (·.2)) (kvs.map (·.2))→aU prog w T own h a (.dict es)
 | dictT {es:List (V×V)} {xs:List (List SB×Addr×Value)} {o:Obj} {en ep}:h.get? a=some o→o.ExactDict→o.data= .dict en ep→en.toList=xs.map (entryOfKey (tupleKind (oF prog w)))→(xs.map (·.1)).Nodup→
   (a==sysModules)=false→es.map (·.1)=xs.map (fun x=>V.tup (x.1.map SB.val))→aB own h (es.map (·.1)) (xs.map fun x=> .ref x.2.1)→aB own h (es.map (·.2)) (xs.map (·.2.2))→aU prog w T own h a (.dict es)
section
variable{prog:Program}{w:World}{T:Tab}{own:ak}{h:Heap}{a:Addr}{P:Prop}
theorem aU.k_list{xs:List V}(R:aU prog w T own h a (.list xs))(k:∀(vs:Array Value) (n:Nat),IsL h a vs n→aB own h xs vs.toList→P):P:=by cases R;exact k _ _ ‹_› ‹_›
theorem aU.k_inst{c:Nat}{fs:List (String×V)}(R:aU prog w T own h a (.inst c fs))(k:∀(d:Addr) (m:Str→Option Value) (o:Obj),h.get? a=some o→o.cls= .ref c→o.dict=some d→o.data= .plain→own d=some a→d≠a→h.Ns1 d m→FM own h fs m→
   (∀n x,Mine.get fs n=some x→gO T c n=true)→(T.cls c).any (!·.isExc)=true→P):P:=by
 cases R with
 | inst e1 e2 e3 e4 e5 e6 e7 e8 e9 e10=>exact k _ _ _ e1 e2 e3 e4 e5 e6 e7 e8 e9 e10
noncomputable def Di(own:ak)(h:Heap)(a:Addr)(vs:Array Value):Prop:=vs[1]? =some .none∨∃t ot ts,vs[1]? =some (.ref t)∧own t=some a∧t≠a∧h.get? t=some ot∧ot.data= .fields ts∧3<ts.size
theorem aU.k_exc{c:Nat}{fs:List (String×V)}(R:aU prog w T own h a (.exc c fs))
  (k:∀(d:Addr) (m:Str→Option Value) (o:Obj) (vs:Array Value),h.get? a=some o→o.cls= .ref c→o.dict=some d→o.data= .fields vs→own d=some a→d≠a→h.Ns1 d m→FM own h fs m→
   (∀n x,Mine.get fs n=some x→gO T c n=true)→(T.cls c).any (·.isExc)=true→2<vs.size→vs[2]? =some .none→Di own h a vs→P)
  (k0:∀(o:Obj) (vs:Array Value),fs= []→h.get? a=some o→o.cls= .ref c→o.dict=none→o.data= .fields vs→(T.cls c).any (·.isExc)=true→2<vs.size→vs[2]? =some .none→Di own h a vs→P):P:=by
 cases R with
 | exc e1 e2 e3 e4 e5 e6 e7 e8 e9 e10 e11 e12 e13=>exact k _ _ _ _ e1 e2 e3 e4 e5 e6 e7 e8 e9 e10 e11 e12 e13
 | exc0 e1 e2 e3 e4 e5 e6 e7 e8=>exact k0 _ _ rfl e1 e2 e3 e4 e5 e6 e7 e8
theorem aU.k_listN{xs:List V}(R:aU prog w T own h a (.list xs))(k:∀(vs:Array Value) (n:Nat),IsL h a vs n→aB own h xs vs.toList→xs.length=vs.size→P):P:=by cases R;exact k _ _ ‹_› ‹_› ((aB.len ‹_›).trans (Array.length_toList))
end
variable{prog:Program}{w:World}{T:Tab}{YC:Heap}
structure Ok(prog:Program)(w:World)(T:Tab)(YC:Heap)(own:ak)(H:MH)(h:Heap):Prop where
 base:∀a o,YC.get? a=some o→h.get? a=some o
 old:∀a o,YC.get? a=some o→own a=none
 rep:∀a o,H a=some o→own a=some a∧aU prog w T own h a o
noncomputable def c7(H:MH)(a:Nat):Prop:=∃c fs,H a=some (.exc c fs)
noncomputable def Tb(h:Heap)(a:Addr):Prop:=∃o vs t,h.get? a=some o∧o.data= .fields vs∧vs[1]? =some (.ref t)
structure aH(F:Addr→Prop)(own:ak)(H:MH)(h:Heap)(YD:ak)(H':MH)(h':Heap):Prop where
 same:∀a o,h.get? a=some o→YD a=own a
 keep:∀a o,h.get? a=some o→own a=none→ ¬F a→∃sl,h'.get? a=some {o with slots:=sl}∧(wY o∨sl=o.slots)
 tups:∀a o,h.get? a=some o→own a=none→gP o→h'.get? a=some o
 there:∀a o,h.get? a=some o→∃o',h'.get? a=some o'
 exc:∀a,c7 H a→c7 H' a
 tb:∀a,c7 H a→Tb h a→Tb h' a
abbrev aV:Addr→Prop:=fun zz=>False
theorem aH.refl{F:Addr→Prop}{own:ak}{H:MH}{h:Heap}:aH F own H h own H h:=⟨fun zz zz zz=>rfl,fun zz o e zz zz=>⟨o.slots,e, .inr rfl⟩,fun zz zz e zz zz=>e,fun zz o e=>⟨o,e⟩,fun zz x=>x,fun zz zz x=>x⟩
theorem aH.trans{F:Addr→Prop}{o1 o2 o3:ak}{H1 H2 H3:MH}{h1 h2 h3:Heap}(x:aH F o1 H1 h1 o2 H2 h2)(y:aH F o2 H2 h2 o3 H3 h3):aH F o1 H1 h1 o3 H3 h3:=
 ⟨fun a o e=>by obtain ⟨o',e'⟩:=x.there a o e;rw [y.same a o' e',x.same a o e],
  fun a o e n f=>by
  obtain ⟨sl,e',q⟩:=x.keep a o e n f
  obtain ⟨sl',e'',q'⟩:=y.keep a _ e' (by rw [x.same a o e];exact n) f
  refine ⟨sl',e'', ?_⟩
  rcases q with q | q
  ·exact .inl q
  ·rcases q' with q' | q'
   ·exact .inl q'
   ·exact .inr (q'.trans q),
  fun a o e n c=>y.tups a o (x.tups a o e n c) (by rw [x.same a o e];exact n) c,
  fun a o e=>by obtain ⟨o',e'⟩:=x.there a o e;exact y.there a o' e',
  fun a e=>y.exc a (x.exc a e),fun a e z=>y.tb a (x.exc a e) (x.tb a e z)⟩
theorem aH.tup{F:Addr→Prop}{own YD:ak}{H H':MH}{h h':Heap}(x:aH F own H h YD H' h'):dM own h YD h':=fun a o e n c=>
 ⟨by rw [x.same a o e];exact n,x.tups a o e n c⟩
theorem aH.mono{F G:Addr→Prop}{own YD:ak}{H H':MH}{h h':Heap}(x:aH F own H h YD H' h')(k:∀a,F a→G a):aH G own H h YD H' h':=
 ⟨x.same,fun a o e n f=>x.keep a o e n fun z=>f (k a z),x.tups,x.there,x.exc,x.tb⟩
theorem aH.any{G:Addr→Prop}{own YD:ak}{H H':MH}{h h':Heap}(x:aH aV own H h YD H' h'):aH G own H h YD H' h':=x.mono fun zz z=>z.elim
theorem aH.of_keeps{F:Addr→Prop}{own YD:ak}{H:MH}{h h':Heap}(k:∀a o,h.get? a=some o→h'.get? a=some o)(ko:∀a o,h.get? a=some o→YD a=own a):aH F own H h YD H h':=
 ⟨ko,fun a o e zz zz=>⟨o.slots,k a o e, .inr rfl⟩,fun a o e zz zz=>k a o e,fun a o e=>⟨o,k a o e⟩,fun zz x=>x,fun a _ ⟨o,vs,t,q1,q2,q3⟩=>⟨o,vs,t,k a o q1,q2,q3⟩⟩
theorem aU.keep{own YD:ak}{h h':Heap}{a:Addr}{o:O}(R:aU prog w T own h a o)(ha:own a=some a)(hk:dM own h YD h')
  (k:∀x ox,h.get? x=some ox→own x=some a→h'.get? x=some ox∧YD x=some a):aU prog w T YD h' a o:=by
 induction R using aU.casesOn with
 | list hl hv=>exact .list (k _ _ hl ha).1 (hv.keep hk)
 | inst e1 f1 f2 f3 e2 f4 e3 e4 e5 e6=>
  obtain ⟨od,es,ep,ed,r⟩:=e3
  exact .inst (k _ _ e1 ha).1 f1 f2 f3 (k _ _ ed e2).2 f4 ⟨od,es,ep,(k _ _ ed e2).1,r⟩ (e4.keep hk) e5 e6
 | exc e1 f1 f2 f3 e2 f4 e3 e4 e5 e6 e7 e8 e9=>
  obtain ⟨od,es,ep,ed,r⟩:=e3
  refine .exc (k _ _ e1 ha).1 f1 f2 f3 (k _ _ ed e2).2 f4 ⟨od,es,ep,(k _ _ ed e2).1,r⟩ (e4.keep hk) e5 e6 e7 e8 (e9.imp id fun ⟨t,ot,ts,q1,q2,q3,q4,q5⟩=>⟨t,ot,ts,q1,(k _ _ q4 q2).2,q3,(k _ _ q4 q2).1,q5⟩)
 | exc0 e1 f1 f2 f3 e6 e7 e8 e9=>exact .exc0 (k _ _ e1 ha).1 f1 f2 f3 e6 e7 e8 (e9.imp id fun ⟨t,ot,ts,q1,q2,q3,q4,q5⟩=>⟨t,ot,ts,q1,(k _ _ q4 q2).2,q3,(k _ _ q4 q2).1,q5⟩)
 | dictS e1 e2 e3 e4=>
  obtain ⟨od,es,ep,e,r⟩:=e1
  exact .dictS ⟨od,es,ep,(k _ _ e ha).1,r⟩ e2 e3 (e4.keep hk)
 | dictT e1 e2 e3 e4 e5 e6 e7 e8 e9=>exact .dictT (k _ _ e1 ha).1 e2 e3 e4 e5 e6 e7 (e8.keep hk) (e9.keep hk)
theorem Ok.grow{own YD:ak}{H:MH}{h h':Heap}(O:Ok prog w T YC own H h)(k:∀a o,h.get? a=some o→h'.get? a=some o)(ko:∀a o,h.get? a=some o→YD a=own a):Ok prog w T YC YD H h':=
 ⟨fun a o e=>k a o (O.base a o e),fun a o e=>by rw [ko a o (O.base a o e)];exact O.old a o e,fun a o e=>by
  obtain ⟨r1,r2⟩:=O.rep a o e
  have ha:∃ox,h.get? a=some ox:=by cases r2 with
   | list hl _=>exact ⟨_,hl⟩
   | inst e1=>exact ⟨_,e1⟩
   | exc e1=>exact ⟨_,e1⟩
   | exc0 e1=>exact ⟨_,e1⟩
   | dictS e1=>exact ⟨_,e1.choose_spec.choose_spec.choose_spec.1⟩
   | dictT e1=>exact ⟨_,e1⟩
  obtain ⟨ox,hx⟩:=ha
  exact ⟨by rw [ko a ox hx];exact r1,r2.keep r1 (fun b ob eb nb zz=>⟨by rw [ko b ob eb];exact nb,k b ob eb⟩) fun x ox' ex eo=>⟨k x ox' ex,by rw [ko x ox' ex];exact eo⟩⟩⟩
theorem aU.there{own:ak}{h:Heap}{a:Addr}{o:O}(R:aU prog w T own h a o):∃ox,h.get? a=some ox:=by
 cases R with
 | list hl _=>exact ⟨_,hl⟩
 | inst e1=>exact ⟨_,e1⟩
 | exc e1=>exact ⟨_,e1⟩
 | exc0 e1=>exact ⟨_,e1⟩
 | dictS e1=>exact ⟨_,e1.choose_spec.choose_spec.choose_spec.1⟩
 | dictT e1=>exact ⟨_,e1⟩
theorem Ok.upd{own:ak}{H:MH}{h h':Heap}{u b:Addr}{ou:Obj}{ob:O}(O:Ok prog w T YC own H h)(hu:own u=some b)(eu:h.get? u=some ou)(hs:Heap.SameBut u h h')
  (hh:∃ou',h'.get? u=some ou') (hb:own b=some b) (R:dM own h own h'→aU prog w T own h' b ob)
  (hx:∀c fs,H b=some (.exc c fs)→∃c' fs',ob= .exc c' fs') (ht:c7 H b→Tb h b→Tb h' b) {F:Addr→Prop}:Ok prog w T YC own (H.upd b ob) h'∧aH F own H h own (H.upd b ob) h':=by
 have ne:∀x,own x≠some b→x≠u:=fun x n e=>n (e▸hu)
 have tk:dM own h own h':=fun x o e n zz=>⟨n,(hs.2 x (ne x (by rw [n];exact fun z=>nomatch z))).trans e⟩
 refine ⟨⟨fun x o e=>(hs.2 x (ne x (by rw [O.old x o e];exact fun z=>nomatch z))).trans (O.base x o e),O.old,fun x o e=> ?_⟩,fun zz zz zz=>rfl,fun x o e n zz=>⟨o.slots,(hs.2 x (ne x (by rw [n];exact fun z=>nomatch z))).trans e, .inr rfl⟩,fun x o e n zz=>(tk x o e n ‹_›).2,fun x o e=> ?_,fun x ⟨c,fs,e⟩=> ?_,fun x ex tx=> ?_⟩
 ·unfold MH.upd at e
  by_cases q:x=b
  ·subst q
   rw [if_pos rfl] at e
   obtain rfl:=Option.some.inj e
   exact ⟨hb,R tk⟩
  ·rw [if_neg q] at e
   obtain ⟨r1,r2⟩:=O.rep x o e
   refine ⟨r1,r2.keep r1 tk fun y oy ey eo=>⟨(hs.2 y (ne y (by rw [eo];exact fun z=>q (Option.some.inj z)))).trans ey,eo⟩⟩
 ·by_cases q:x=u
  ·subst q;exact hh
  ·exact ⟨o,(hs.2 x q).trans e⟩
 ·unfold c7 MH.upd
  by_cases q:x=b
  ·subst q
   obtain ⟨c',fs',z⟩:=hx c fs e
   exact ⟨c',fs',by rw [if_pos rfl,z]⟩
  ·exact ⟨c,fs,by rw [if_neg q];exact e⟩
 ·by_cases q:x=b
  ·subst q;exact ht ex tx
  ·obtain ⟨c,fs,e⟩:=ex
   obtain ⟨o,vs,t,q1,q2,q3⟩:=tx
   exact ⟨o,vs,t,(hs.2 x (ne x (by rw [(O.rep x _ e).1];exact fun z=>q (Option.some.inj z)))).trans q1,q2,q3⟩
noncomputable def ak.set(own:ak)(a:Addr)(b:Option Addr):ak:=fun x=>if x=a then b else own x
theorem Ok.add{own:ak}{H:MH}{h:Heap}{z:Addr}{o:O}(O:Ok prog w T YC own H h)(hz:own z=some z)(R:aU prog w T own h z o):Ok prog w T YC own (H.upd z o) h:=
 ⟨O.base,O.old,fun x ox e=>by
  unfold MH.upd at e
  by_cases q:x=z
  ·subst q;rw [if_pos rfl] at e;obtain rfl:=Option.some.inj e;exact ⟨hz,R⟩
  ·rw [if_neg q] at e;exact O.rep x ox e⟩
theorem qm{H:MH}{z:Addr}{o:O}(hz:H z=none):∀a,c7 H a→c7 (H.upd z o) a:=fun a ⟨c,fs,e⟩=>by
 refine ⟨c,fs, ?_⟩
 unfold MH.upd
 rw [if_neg fun q=>by rw [q,hz] at e;exact aG e]
 exact e
end Mine
namespace Mine
open PySem PySem.Calls PyProof.Rows
open PySem.W
open Builtin Builtin.ObjectAttr
structure jX(K:Frag)(c:Addr)(k:Cls):Prop where
 cd:∃cd,clsIn K c=some cd∧cd.hasDict=true∧cd.mro.isEmpty=false∧cd.mro.contains (.type "object")=true∧∀self,refuseLoop self "__setattr__" cd.mro=pure ()
 ga:findIn K (.ref c) "__getattribute__"=some (some (.builtin (if k.isExc then "BaseException.__getattribute__" else "object.__getattribute__")))
 gt:findIn K (.ref c) "__getattr__"=some none
 sa:findIn K (.ref c) "__setattr__"=some (some (.builtin "object.__setattr__"))
 fld:∀n∈k.fields,findIn K (.ref c) (nm n)=some none
 meth:∀n f,k.meths.lookup n=some f→findIn K (.ref c) (nm n)=some (some (.ref f))∧typeIn K (.ref f)=some (.type "function")
 ct:specialIn K (.ref c) "__getattribute__"=some (some (.builtin "type.__getattribute__"))
 cm:∃mc,readsIn K c mc=true∧∀n f,k.meths.lookup n=some f→findCls K (.ref c) mc (nm n)=some (.val (.ref f))
 few:k.fields.length≤1000
 exc:k.isExc=true→subIn K (.ref c) (.type "BaseException")=some true
 excO:k.isExc=true→∃nm q N bs hdct sn sub ab col dd k0 k1 k2 k3 k5,K.lookup c=some (excClassObj nm q c N bs [.type "Exception", .type "BaseException", .type "object"] hdct sn sub ab col dd k0 k1 k2 k3 k5 "Exception.__new__")
 excE:k.isExc=true→subIn K (.ref c) (.type "Exception")=some true
section
variable{prog:Program}{w:World}{T:Tab}{YC:Heap}{K:Frag}{A:Around}{E:Value→Shared→Prop}{s:Shared}{own:ak}{H:MH}{a c:Addr}{k:Cls}{o:Obj}{d:Addr}{m:Str→Option Value}
theorem tO{h:Heap}(hm:h.Ns1 d m):∃od,h.get? d=some od∧∀n,lookIn n od=some (m n):=by
 obtain ⟨od,es,ep,e,hd,hk,_,hf⟩:=hm
 refine ⟨od,e,fun n=> ?_⟩
 unfold lookIn
 rw [hd]
 dsimp only
 have:=hf n
 unfold nsFind findBy at this
 rw [←Array.find?_toList] at this
 induction q:es.toList.find? (fun e=>e.key.isStr n) using Option.casesOn with
 | some en=>rw [q] at this;rw [←this];rfl
 | none=>
  rw [q] at this
  dsimp only
  rw [if_neg ?_]
  ·rw [←this];rfl
  ·intro z
   obtain ⟨en,hin,hr⟩:=List.any_eq_true.mp z
   obtain ⟨y,t,e⟩:=hk en (Array.mem_toList_iff.mp hin)
   unfold DictEntry.refKey at hr
   rw [e] at hr
   exact bz hr
theorem tQ{h:Heap}(e1:h.get? a=some o)(e2:o.cls= .ref c)(e3:o.dict=some d)(e4:∀z,o.data≠ .cls z){od:Obj}(e5:h.get? d=some od):InstAt h a o c (some od):=
 ⟨e1,e2,by
  obtain ⟨c,d,dt,sl⟩:=o
  induction dt using PySem.Data.casesOn with
  | cls z=>exact absurd rfl (e4 z)
  | _=>rfl,by rw [e3];exact e5⟩
theorem MP(X:K.In s.heap)(C:jX K c k)(hx:k.isExc=false)(e1:s.heap.get? a=some o)(e2:o.cls= .ref c)(e3:o.dict=some d)(e4:∀z,o.data≠ .cls z)(hm:s.heap.Ns1 d m)
  {n:String} (hn:n∈k.fields) {v:Value} (hv:m (nm n)=some v) (hh:handedIn v=true) {expr:Bool} {Q:Value→Shared→Prop} (h:Q v (aF s s.heap (s.toks+1))):wpAny (model prog w) A (getAttr (.ref a) (nm n) expr) Q E s:=by
 obtain ⟨od,e5,e6⟩:=tO hm
 obtain ⟨cd,hc,hd,_⟩:=C.cd
 have ga:=C.ga
 rw [hx] at ga
 refine get_value X (tQ e1 e2 e3 e4 e5) ga (findObj_own (attr:=none) ?_ (C.fld n hn) rfl ?_) hh h
 ·unfold hasDictIn;rw [hc];exact hd
 ·rw [e6,hv]
theorem MT{hp:Heap}{g:Array GenState}{dr:Drawn}{t:Nat}{os:OsState}{name:Str}{tk:Tok}{v:Value}{Q:Fin→Shared→Prop}(L0:Looks (model prog w) hp (typeOf (.ref a)) (.ref c))
  (L3:Looks (model prog w) hp (find (.ref a) (.ref c) name) (.value v)) (h:Q (.done (.ret v)) ⟨hp,g,dr,t,os⟩):
  wpAny (model prog w) A (Builtin.«object.__getattribute__» ⟨[.ref a, .str name tk],[]⟩) Q E ⟨hp,g,dr,t,os⟩:=by
 unfold Builtin.«object.__getattribute__»
 refine wpAny_bind (wpAny_pure (a:=(Value.ref a,[Value.str name tk])) ?_)
 refine wpAny_bind (wpAny_pure (a:=name) ?_)
 refine wpAny_bind (L0.at ?_)
 refine wpAny_bind (L3.at ?_)
 exact wpAny_pure h
theorem M3{hp:Heap}{g:Array GenState}{dr:Drawn}{t:Nat}{os:OsState}{name:Str}{tk:Tok}{v:Value}{Q:Value→Shared→Prop}(L0:Looks (model prog w) hp (typeOf (.ref a)) (.ref c))
  (L3:Looks (model prog w) hp (find (.ref a) (.ref c) name) (.value v)) (L4:Looks (model prog w) hp (isSubtype (.ref c) (.type "BaseException")) true) (h:Q v ⟨hp,g,dr,t,os⟩):
  wpAny (model prog w) A (call (.builtin "BaseException.__getattribute__") [.ref a, .str name tk]) Q E ⟨hp,g,dr,t,os⟩:=by
 have hk:builtinKind "BaseException.__getattribute__"=some .slot:=by decide+kernel
 have hsp:splitId "BaseException.__getattribute__"=some ("BaseException","__getattribute__"):=by decide+kernel
 refine wpAny_call (codeAny_call_builtin F.excAttr_ValueError.ga.plain F.entry_bexc_ga ?_)
 refine @check_slot (model prog w) _ _ ⟨hp,g,dr,t,os⟩ "BaseException.__getattribute__" "BaseException" "__getattribute__" (.ref a) [.str name tk] [] _ hk hsp (L0.andThen L4) (F.args_bexc_ga _ _) ?_
 exact MT L0 L3 h
theorem M4(x:Value):bindSpecial (.builtin "BaseException.__getattribute__") x=pure (.builtin "BaseException.__getattribute__",[x]):=F.excAttr_ValueError.ga.bind x
theorem M5:(Value.builtin "BaseException.__getattribute__"==Value.builtin "object.__getattribute__")=false:=by decide+kernel
theorem M6{hp:Heap}{g:Array GenState}{dr:Drawn}{t:Nat}{os:OsState}{name:Str}{tk:Tok}{v:Value}{expr:Bool}{Q:Value→Shared→Prop}(L0:Looks (model prog w) hp (typeOf (.ref a)) (.ref c))
  (L2:Looks (model prog w) hp (typeLookup (.ref c) "__getattr__") none)
  (L3:Looks (model prog w) hp (find (.ref a) (.ref c) name) (.value v)) (L4:Looks (model prog w) hp (isSubtype (.ref c) (.type "BaseException")) true) (hh:handedIn v=true) (h:Q v ⟨hp,g,dr,t,os⟩):
  wpAny (model prog w) A (getAttrByItsOwn (.ref a) (.str name tk) (.ref c) (.builtin "BaseException.__getattribute__") true expr) Q E ⟨hp,g,dr,t,os⟩:=by
 have hx0:(expr && onTheHeap (Value.builtin "BaseException.__getattribute__"))=false:=by induction expr using Bool.casesOn<;>rfl
 unfold getAttrByItsOwn hookBefore
 refine wpAny_bind (m:=if onTheHeap (Value.ref c)=true then typeLookup (.ref c) "__getattr__" else pure none) ?_
 rw [if_pos (show onTheHeap (Value.ref c)=true from rfl)]
 refine L2.at (wpAny_bind (wpAny_attempt (wpAny_holding ?_)))
 unfold callGetattribute boundAndCalled
 rw [hx0,if_neg Bool.false_ne_true,M4]
 refine wpAny_bind (wpAny_pure (M3 L0 L3 L4 ?_))
 show wpAny _ _ (handedOut v) _ _ _
 rw [handedOut_of hh]
 exact wpAny_pure h
theorem M7(X:K.In s.heap)(C:jX K c k)(hx:k.isExc=true)(e1:s.heap.get? a=some o)(e2:o.cls= .ref c)(e3:o.dict=some d)(e4:∀z,o.data≠ .cls z)(hm:s.heap.Ns1 d m)
  {n:String} (hn:n∈k.fields) {v:Value} (hv:m (nm n)=some v) (hh:handedIn v=true) {expr:Bool} {Q:Value→Shared→Prop} (h:Q v (aF s s.heap (s.toks+1))):wpAny (model prog w) A (getAttr (.ref a) (nm n) expr) Q E s:=by
 obtain ⟨od,e5,e6⟩:=tO hm
 obtain ⟨cd,hc,hd,_⟩:=C.cd
 have ga:=C.ga
 rw [hx,if_pos rfl] at ga
 have I:=tQ e1 e2 e3 e4 e5
 obtain ⟨hp,g,dr,t,os⟩:=s
 have L0:=I.type (M:=model prog w)
 have L1:=looks_findIn (M:=model prog w) X ga
 have L2:=looks_findIn (M:=model prog w) X C.gt
 have L3:=looks_find (M:=model prog w) X I (findObj_own (attr:=none) (K:=K) (C:=c) (name:=nm n) (v:=v) (by unfold hasDictIn;rw [hc];exact hd) (C.fld n hn) rfl (by rw [e6,hv]))
 have L4:=looks_subIn (M:=model prog w) X (C.exc hx)
 unfold getAttr getAttrBy
 refine wpAny_bind (wpAny_mkText (wpAny_holding (wpAny_bind (L0.at (wpAny_bind (L1.at ?_))))))
 dsimp only
 rw [M5,Bool.and_false,if_neg Bool.false_ne_true]
 exact M6 L0 L2 L3 L4 hh h
theorem xg(X:K.In s.heap)(C:jX K c k)(e1:s.heap.get? a=some o)(e2:o.cls= .ref c)(e3:o.dict=some d)(e4:∀z,o.data≠ .cls z)(hm:s.heap.Ns1 d m)
  {n:String} (hn:n∈k.fields) {v:Value} (hv:m (nm n)=some v) (hh:handedIn v=true) {expr:Bool} {Q:Value→Shared→Prop} (h:Q v (aF s s.heap (s.toks+1))):wpAny (model prog w) A (getAttr (.ref a) (nm n) expr) Q E s:=by
 induction hx:k.isExc using Bool.casesOn with
 | true=>exact M7 X C hx e1 e2 e3 e4 hm hn hv hh h
 | false=>exact MP X C hx e1 e2 e3 e4 hm hn hv hh h
end
section
variable{prog:Program}{w:World}{T:Tab}{YC:Heap}{K:Frag}{A:Around}{E:Value→Shared→Prop}{R:Result→Shared→Prop}{s:Shared}{a c:Addr}{k:Cls}{o:Obj}{d:Addr}{m:Str→Option Value}
theorem Dj{ox:Obj}{od:Option Obj}{n:String}{tk:Tok}{v:Value}(X:K.In s.heap)(C:jX K c k)(hn:n∈k.fields)(I:InstAt s.heap a ox c od)
  (h:∀b,wpAny (model prog w) A.in1 (storeInOwnDict (.ref a) (.ref c) (.str (nm n) tk) (nm n) v b)
   (fun fin s'=>match fin with | .done f=>R (.ok f) s' | .again c'=>c'.quiet=true∧codeAny (model prog w) A c' R s') (fun e s'=>R (.error e) s') s):
  codeAny (model prog w) A (.call (.builtin "object.__setattr__") ⟨[.ref a, .str (nm n) tk,v],[]⟩) R s:=by
 have SF:=PySem.F.store_object
 obtain ⟨cd,hc,hdd,ne,hobj,href⟩:=C.cd
 have sub:Looks (model prog w) s.heap (isInstance (.ref a) (.type "object")) true:=I.type.andThen (looks_mroIn X (by unfold mroIn;rw [hc,Option.bind_some,if_neg (by rw [ne];decide),hobj]))
 refine codeAny_call_builtin SF.slot.plain SF.entry (@check_slot (model prog w) _ _ s "object.__setattr__" "object" "__setattr__" (.ref a) [.str (nm n) tk,v] [] _ SF.kind SF.split sub (SF.args (.ref a) (.str (nm n) tk) v) ?_)
 have ha:=C.fld n hn
 have hm:Looks (model prog w) s.heap (mroOf (.ref c)) cd.mro:=(looks_clsIn X hc).andThen .now
 have L3:Looks (model prog w) s.heap (storeTaker? none) none:= .now
 rw [osa_eq,refuse_eq]
 refine wpAny_bind (wpAny_bind (I.type.here (wpAny_bind (hm.here ?_))))
 rw [href]
 refine wpAny_pure (wpAny_bind (I.type.here (wpAny_bind ((looks_findIn X ha).here (wpAny_bind (L3.here ?_))))))
 exact h _
theorem Dk{n:String}{v:Value}{ns:List Str}{Q:Unit→Shared→Prop}(X:K.In s.heap)(C:jX K c k)(e1:s.heap.get? a=some o)(e2:o.cls= .ref c)(e3:o.dict=some d)(e4:∀z,o.data≠ .cls z)(hm:s.heap.Ns1 d m)
  (hn:n∈k.fields) (hw:Within m ns) (hz:ns.length≤1000)
  (h:∀h',h'.Ns1 d (fun y=>if y=nm n then some v else m y)→Heap.SameBut d s.heap h'→Q () (aF s h' (s.toks+2))):
  wpAny (model prog w) A (setAttr (.ref a) (nm n) v) Q E s:=by
 obtain ⟨hp,g,dr,t,os⟩:=s
 have X':K.In hp:=X
 obtain ⟨od,e5,e6⟩:=tO hm
 have I:=tQ e1 e2 e3 e4 e5
 refine set_plain X I C.sa (Dj (s:=⟨hp,g,dr,t+1,os⟩) X C hn I fun b=> ?_)
 obtain ⟨cd,hc,hd',_⟩:=C.cd
 have L:=looks_clsIn (M:=model prog w) X' hc
 obtain ⟨oc,odi,oda,osl⟩:=o
 dsimp only at e2 e3 e4
 subst e2 e3
 refine wpAny_bind (wpAny_pure (wpAny_bind (wpAny_bind (wpAny_loadPart e1 (wpAny_bind (Looks.here (s:=⟨hp,g,dr,t+1,os⟩) L ?_))))))
 rw [hd']
 refine wpAny_pure (a:=some d) (wpAny_bind (wpAny_pure (wpAny_bind ?_)))
 refine wpAny_nsSet1 (s:=⟨hp,g,dr,t+1,os⟩) hm fun h' hm' hs'=> ?_
 obtain ⟨o',es',ep',q1,q2,q3⟩:=hm'.count (ns:=nm n::ns) (hw.cons (nm n) v)
 refine wpAny_bind (wpAny_lookBehind (o:=o') q1 (by rw [q2];exact pastItsLine_dict (by rw [List.length_cons] at q3;rw [sizeLine_eq];omega)) ?_)
 exact wpAny_pure (h _ hm' hs')
theorem M8{n:String}{v:Value}{Q:Unit→Shared→Prop}(X:K.In s.heap)(C:jX K c k)(e1:s.heap.get? a=some o)(e2:o.cls= .ref c)(e3:o.dict=none){vs:Array Value}(e4:o.data= .fields vs)
  (hn:n∈k.fields)
  (h:∀hB h',hB.get? a=some {o with dict:=some s.heap.objs.size}→Heap.SameBut a (s.heap.push {cls:= .type "dict",data:= .dict #[]}) hB→hB.Ns1 s.heap.objs.size (fun zz=>none)→h'.Ns1 s.heap.objs.size (fun y=>if y=nm n then some v else none)→Heap.SameBut s.heap.objs.size hB h'→Q () (aF s h' (s.toks+2))):
  wpAny (model prog w) A (setAttr (.ref a) (nm n) v) Q E s:=by
 obtain ⟨hp,g,dr,t,os⟩:=s
 have X':K.In hp:=X
 have I:InstAt hp a o c none:=⟨e1,e2,by unfold notCls;rw [e4],by rw [e3];trivial⟩
 refine set_plain X I C.sa (Dj (s:=⟨hp,g,dr,t+1,os⟩) X C hn I fun b=> ?_)
 obtain ⟨cd,hc,hd',_⟩:=C.cd
 have L:=looks_clsIn (M:=model prog w) X' hc
 obtain ⟨oc,odi,oda,osl⟩:=o
 dsimp only at e2 e3 e4
 subst e2 e3 e4
 refine wpAny_bind (wpAny_pure (wpAny_bind (wpAny_bind (wpAny_loadPart e1 (wpAny_bind (Looks.here (s:=⟨hp,g,dr,t+1,os⟩) L ?_))))))
 rw [hd']
 show wpAny _ _ (do
   let d←alloc {cls:= .type "dict",data:= .dict #[]}
   update a fun o=>{cls:=o.cls,dict:=some d,data:=o.data,slots:=o.slots}
   dictMade (.ref c) a d) _ _ _
 refine wpAny_bind (wpAny_alloc (wpAny_bind (wpAny_update (Heap.get?_push_of_some _ e1) ?_)))
 refine wpAny_pure (a:=some hp.objs.size) (wpAny_bind (wpAny_pure (wpAny_bind ?_)))
 have hne:a≠hp.objs.size:=Nat.ne_of_lt (Heap.lt_size e1)
 have hm0:((hp.push {cls:= .type "dict",data:= .dict #[]}).update a fun o=>{cls:=o.cls,dict:=some hp.objs.size,data:=o.data,slots:=o.slots}).Ns1 hp.objs.size fun zz=>none:=by
  refine Heap.Ns1.of_empty ⟨_,#[],0,(Heap.get?_update_other _ _ hne).trans (Heap.get?_push_size _ rfl),rfl,fun zz he=>by simp at he,fun zz=>rfl⟩
 have ha0:((hp.push {cls:= .type "dict",data:= .dict #[]}).update a fun o=>{cls:=o.cls,dict:=some hp.objs.size,data:=o.data,slots:=o.slots}).get? a=some {cls:= .ref c,dict:=some hp.objs.size,data:= .fields vs,slots:=osl}:=
  Heap.get?_update_self _ (Heap.get?_push_of_some _ e1) rfl
 refine wpAny_nsSet1 (s:=⟨_,g,dr,t+1,os⟩) hm0 fun h' hm' hs'=> ?_
 have hw:Within (fun _:Str=>(none:Option Value)) []:=fun y hy=>absurd rfl hy
 obtain ⟨o',es',ep',q1,q2,q3⟩:=hm'.count (ns:= [nm n]) (hw.cons (nm n) v)
 refine wpAny_bind (wpAny_lookBehind (o:=o') q1 (by rw [q2];exact pastItsLine_dict (by rw [sizeLine_eq];simp at q3;omega)) ?_)
 exact wpAny_pure (h _ _ ha0 (Heap.SameBut.update ..) hm0 hm' hs')
end
end Mine
namespace Mine
open PySem PySem.Calls PyProof.Rows
open PySem.W
noncomputable def Dl(e:Expr):Bool:=match e with
 | .UnaryOp op _ _=> !(op== .Not)
 | _=> !(Nat.beq e.ctorIdx 0 || Nat.beq e.ctorIdx 5 || Nat.beq e.ctorIdx 15)
inductive mJ:List (Option Expr)→List V→Prop
 | nil:mJ [] []
 | cons {s k p ks vs}:mJ ks vs→mJ (some (.Constant (.str s) k p)::ks) (.str s.cps.toList::vs)
inductive mK(gl:String→Option Value)(sc:SC):List Expr→List V→Prop
 | nil:mK gl sc [] []
 | cons {x p v es vs}:sc.lookup (nm x)=some .globalImplicit→(nm x==("__debug__":Str))=false→gl x=some v→mK gl sc es vs→mK gl sc (.Name (nm x) p::es) (.con v::vs)
structure cj(env:Env)(sc:SC):Prop where
 names:env.scope.names=sc
 kind:env.scope.kind= .function
 globals:env.globals=mainGlobals
 builtins:env.builtins=builtinsNs
structure FO(YC:Heap)(env:Env)(own:ak)(h:Heap)(loc:Loc):Prop where
 ownL:own env.locals=none
 oldL:YC.get? env.locals=none
 ns:∃m,h.Ns1 env.locals m∧∀x v,Mine.get loc x=some v→env.kindOf (nm x)=some .local→x≠".0"→∃val,m (nm x)=some val∧VR own h v val
 cell:∀x,env.kindOf x=some .cell→∃c o vo,env.cells.lookup x=some c∧own c=none∧YC.get? c=none∧h.get? c=some o∧o.data= .cell vo∧∀y v,x=nm y→Mine.get loc y=some v→∃val,vo=some val∧VR own h v val
 apart:∀x y c,env.cells.lookup x=some c→env.cells.lookup y=some c→x=y
noncomputable def FF(YC:Heap)(own:ak)(h:Heap)(fr:List Env):Prop:=
 ∀env∈fr,env.scope.kind= .function∧∃L m,env.frame=some L∧own L=none∧YC.get? L=none∧h.Ns L m
structure AO(A:Around)(fr:List Env)(hd:Option Nat)(d:Nat):Prop where
 frames:A.frames=some fr
 handled:A.handled=hd.map Value.ref
 depth:A.depth+3*d+5<recursionLimit
 units:A.units+12*d+60<cLine
theorem AO.u{A:Around}{fr:List Env}{hd:Option Nat}{d k:Nat}(I:AO A fr hd d)(hk:k≤60):A.units+k<cLine:=Nat.lt_of_le_of_lt (Nat.add_le_add (Nat.le_add_right _ _) hk) I.units
theorem tR{a x m d c L:Nat}(h:a+(m*d+m)+c<L)(k:x≤a+m):x+m*d+c<L:=
 Nat.lt_of_le_of_lt (Nat.add_le_add_right (Nat.le_trans (Nat.add_le_add_right k _) (Nat.le_of_eq ((Nat.add_assoc a m (m*d)).trans (congrArg (a+ ·) (Nat.add_comm m (m*d)))))) c) h
noncomputable def mL(hd:Option Nat)(H:MH):Prop:=∀e,hd=some e→c7 H e
theorem Ns1.slots{h h':Heap}{L:Addr}{m:Str→Option Value}(x:h.Ns1 L m)(k:∀o,h.get? L=some o→∃sl,h'.get? L=some {o with slots:=sl}):h'.Ns1 L m:=by
 obtain ⟨o,es,ep,e,hd,r⟩:=x
 obtain ⟨sl,e'⟩:=k o e
 exact ⟨_,es,ep,e',hd,r⟩
theorem Ns.slots{h h':Heap}{L:Addr}{m:Str→Option Value}(x:h.Ns L m)(k:∀o,h.get? L=some o→∃sl,h'.get? L=some {o with slots:=sl}):h'.Ns L m:=by
 obtain ⟨o,es,ep,e,hd,r⟩:=x
 obtain ⟨sl,e'⟩:=k o e
 exact ⟨_,es,ep,e',hd,r⟩
theorem FF.keep{YC:Heap}{own YD:ak}{H H':MH}{h h':Heap}{fr:List Env}(x:FF YC own h fr)(k:aH aV own H h YD H' h'):FF YC YD h' fr:=fun env hm=>by
 obtain ⟨a,L,m,b,c,d,e⟩:=x env hm
 refine ⟨a,L,m,b, ?_,d,Ns.slots e fun o z=>(k.keep L o z c id).imp fun zz q=>q.1⟩
 obtain ⟨o,_,_,z,_⟩:=id e
 rw [k.same L o z];exact c
theorem FO.keep{YC:Heap}{env:Env}{own YD:ak}{H H':MH}{h h':Heap}{loc:Loc}(x:FO YC env own h loc)(k:aH aV own H h YD H' h'):FO YC env YD h' loc:=by
 obtain ⟨m,n1,n2⟩:=x.ns
 have sL:∀o,h.get? env.locals=some o→∃sl,h'.get? env.locals=some {o with slots:=sl}:=fun o z=>(k.keep _ o z x.ownL id).imp fun zz q=>q.1
 refine ⟨?_,x.oldL,⟨m,Ns1.slots n1 sL,fun y v a b hz=> ?_⟩,fun y b=> ?_,x.apart⟩
 ·obtain ⟨o,_,_,z,_⟩:=id n1
  rw [k.same _ o z];exact x.ownL
 ·obtain ⟨val,c,d⟩:=n2 y v a b hz
  exact ⟨val,c,d.keep k.tup⟩
 ·obtain ⟨c,o,vo,q1,q2,q3,q4,q6,q7⟩:=x.cell y b
  obtain ⟨sl,q8,_⟩:=k.keep c o q4 q2 id
  exact ⟨c,_,vo,q1,by rw [k.same c o q4];exact q2,q3,q8,q6,fun z v e g=>by
   obtain ⟨val,r1,r2⟩:=q7 z v e g
   exact ⟨val,r1,r2.keep k.tup⟩⟩
theorem mL.keep{hd:Option Nat}{H H':MH}(x:mL hd H)(k:∀a,c7 H a→c7 H' a):mL hd H':=fun e q=>k e (x e q)
noncomputable def qp(YC:Heap)(T:Tab):Prop:=∀a xs,T.lst a=some xs→∃vs,YC.IsList a vs∧∀own h,aB own h (xs.map V.int) vs.toList
structure Gd(prog:Program)(w:World)(YC:Heap)(K:Frag)(T:Tab):Prop where
 X:K.In YC
 lim:YC.NoLimit
 big:∃a o,sysModules<a∧YC.get? a=some o
 glob:∃mg mb,YC.Ns mainGlobals mg∧YC.Ns builtinsNs mb∧∀x v,T.glob x=some v→pU v=true∧(mg (nm x)=some v∨(mg (nm x)=none∧mb (nm x)=some v))
 cls:∀c k,T.cls c=some k→jX K c k
 lst:qp YC T
 keep:∀a,((T.fn a).isSome || (T.cls a).isSome)=true→keepIn K (.ref a)=true
section
variable(prog:Program)(w:World)(YC:Heap)(T:Tab)
structure bF(fr:List Env)(hd:Option Nat)(d:Nat)(A:Around)(own:ak)(H:MH)(h:Heap):Prop where
 ao:AO A fr hd d
 ff:FF YC own h fr
 hk:mL hd H
 ok:Ok prog w T YC own H h
noncomputable def KQ{α β:Type}(rel:ak→Heap→α→β→Prop)(own:ak)(H:MH)(s:Shared)(Q:α→MH→Prop)(Q':β→Shared→Prop):Prop:=
 ∀v H' YD h' tk val,Q v H'→Ok prog w T YC YD H' h'→aH aV own H s.heap YD H' h'→rel YD h' v val→Q' val (aF s h' tk)
noncomputable def KE(own:ak)(H:MH)(s:Shared)(E:E1)(E':Value→Shared→Prop):Prop:=
 ∀a H' YD h' tk,E a H'→c7 H' a→Ok prog w T YC YD H' h'→aH aV own H s.heap YD H' h'→E' (.ref a) (aF s h' tk)
noncomputable def eZ(C:aO)(d:Nat):Prop:=∀(hd:Option Nat) (f:V) (args:List V) (H:MH) (Q:Q1) (E:E1),C hd f args H Q E→zQ T f=true∧
 ∀(A:Around) (fr:List Env) (own:ak) (s:Shared) (fv:Value) (YG:List Value) (Q':Value→Shared→Prop) (E':Value→Shared→Prop),
 bF prog w YC T fr hd d A own H s.heap→VR own s.heap f fv→aB own s.heap args YG→
 KQ prog w YC T VR own H s Q Q'→KE prog w YC T own H s E E'→wpAny (model prog w) A (call fv YG []) Q' E' s
noncomputable def SE(sc:SC)(e:Expr)(x:X):Prop:=∀(env:Env) (C:aO) (d:Nat) (hd:Option Nat) (fr:List Env) (loc:Loc) (H:MH) (Q:Q1) (E:E1),cj env sc→eZ prog w YC T C d→
 we T C hd x loc H Q E→∀(A:Around) (own:ak) (s:Shared) (Q':Value→Shared→Prop) (E':Value→Shared→Prop),
 bF prog w YC T fr hd d A own H s.heap→FO YC env own s.heap loc→
 KQ prog w YC T VR own H s Q Q'→KE prog w YC T own H s E E'→wpAny (model prog w) A (eval e env) Q' E' s
noncomputable def fc(sc:SC)(e:Expr)(x:X):Prop:=∀(env:Env) (C:aO) (d:Nat) (hd:Option Nat) (fr:List Env) (loc:Loc) (H:MH) (Q:Bool→MH→Prop) (E:E1),cj env sc→eZ prog w YC T C d→
 wc T C hd x loc H (fun q=>we T C hd x loc H q E) Q E→∀(A:Around) (own:ak) (s:Shared) (Q':Bool→Shared→Prop) (E':Value→Shared→Prop),
 bF prog w YC T fr hd d A own H s.heap→FO YC env own s.heap loc→
 KQ prog w YC T (fun zz zz a b=>a=b) own H s Q Q'→KE prog w YC T own H s E E'→wpAny (model prog w) A (isTrue e env (eval e env)) Q' E' s
noncomputable def SL(sc:SC)(es:List Expr)(xs:List X):Prop:=∀(env:Env) (C:aO) (d:Nat) (hd:Option Nat) (fr:List Env) (loc:Loc) (H:MH) (Q:List V→MH→Prop) (E:E1) (pos:Pos),cj env sc→eZ prog w YC T C d→
 gm T C hd xs loc H Q E→∀(A:Around) (own:ak) (s:Shared) (Q':List Value→Shared→Prop) (E':Value→Shared→Prop),
 bF prog w YC T fr hd d A own H s.heap→FO YC env own s.heap loc→
 KQ prog w YC T aB own H s Q Q'→KE prog w YC T own H s E E'→wpAny (model prog w) A (spliced (backTo pos (starEach es env))) Q' E' s
noncomputable def qt(sc:SC)(es:List Expr)(xs:List X):Prop:=∀(env:Env) (C:aO) (d:Nat) (hd:Option Nat) (fr:List Env) (loc:Loc) (H:MH) (Q:Q1) (E:E1) (pos:Pos) (op:BoolOp),cj env sc→eZ prog w YC T C d→
 sJ T C hd (op== .And) xs loc H Q E→∀(A:Around) (own:ak) (s:Shared) (Q':Value→Shared→Prop) (E':Value→Shared→Prop),
 bF prog w YC T fr hd d A own H s.heap→FO YC env own s.heap loc→
 KQ prog w YC T VR own H s Q Q'→KE prog w YC T own H s E E'→wpAny (model prog w) A (boolOp pos op (evalEach es env)) Q' E' s
noncomputable def qu(sc:SC)(es:List Expr)(xs:List X):Prop:=∀(env:Env) (C:aO) (d:Nat) (hd:Option Nat) (fr:List Env) (loc:Loc) (H:MH) (Q:Bool→MH→Prop) (E:E1) (op:BoolOp),cj env sc→eZ prog w YC T C d→
 iT T C hd (op== .And) xs loc H Q E→∀(A:Around) (own:ak) (s:Shared) (Q':Bool→Shared→Prop) (E':Value→Shared→Prop),
 bF prog w YC T fr hd d A own H s.heap→FO YC env own s.heap loc→
 KQ prog w YC T (fun zz zz a b=>a=b) own H s Q Q'→KE prog w YC T own H s E E'→wpAny (model prog w) A (allTrue op es env) Q' E' s
end
section
variable{prog:Program}{w:World}{YC:Heap}{K:Frag}{T:Tab}
theorem bF.step{fr:List Env}{hd:Option Nat}{d:Nat}{A:Around}{own YD:ak}{H H':MH}{h h':Heap}(I:bF prog w YC T fr hd d A own H h)(O:Ok prog w T YC YD H' h')(X:aH aV own H h YD H' h'):bF prog w YC T fr hd d A YD H' h':=
 ⟨I.ao,I.ff.keep X,I.hk.keep X.exc,O⟩
theorem KQ.step{α β:Type}{rel:ak→Heap→α→β→Prop}{own YD:ak}{H H':MH}{s:Shared}{h':Heap}{tk:Nat}{Q:α→MH→Prop}{Q':β→Shared→Prop}(k:KQ prog w YC T rel own H s Q Q')(X:aH aV own H s.heap YD H' h'):
  KQ prog w YC T rel YD H' (aF s h' tk) Q Q':=fun v H2 own2 h2 tk2 val q O X2 r=>k v H2 own2 h2 tk2 val q O (X.trans X2) r
theorem KE.step{own YD:ak}{H H':MH}{s:Shared}{h':Heap}{tk:Nat}{E:E1}{E':Value→Shared→Prop}(k:KE prog w YC T own H s E E')(X:aH aV own H s.heap YD H' h'):
  KE prog w YC T YD H' (aF s h' tk) E E':=fun a H2 own2 h2 tk2 q i O X2=>k a H2 own2 h2 tk2 q i O (X.trans X2)
theorem KQ.now{α β:Type}{rel:ak→Heap→α→β→Prop}{own:ak}{H:MH}{s:Shared}{Q:α→MH→Prop}{Q':β→Shared→Prop}(k:KQ prog w YC T rel own H s Q Q')(O:Ok prog w T YC own H s.heap){v:α}{val:β}(hq:Q v H)(r:rel own s.heap v val)(tk:Nat):Q' val (aF s s.heap tk):=
 k v H own s.heap tk val hq O .refl r
theorem Dm{sc:SC}{e:Expr}{v:V}{val:Nat→Value}(h:∀(env:Env) (A:Around) (s:Shared) (Q':Value→Shared→Prop) (E':Value→Shared→Prop),Q' (val s.toks) (aF s s.heap (s.toks+1))→wpAny (model prog w) A (eval e env) Q' E' s)
  (hv:∀own h t,VR own h v (val t)):SE prog w YC T sc e (.k v):=by
 intro env C d hd fr loc H Q E _ _ hw A own s Q' E' I F kq ke
 exact h env A s Q' E' (kq.now I.ok hw (hv _ _ _) _)
theorem M9{sc:SC}{x:Str}{k p}:SE prog w YC T sc (.Constant (.str x) k p) (.k (.str x.cps.toList)):=
 Dm (val:=fun t=> .str x t) (fun zz zz zz zz zz q=>wpAny_Constant_str q) fun own h t=>by
  have:aJ x.cps.toList=x:=by unfold aJ;induction x using PySem.Str.casesOn;simp
  have z:=VR.str (own:=own) (h:=h) x.cps.toList t
  rw [this] at z
  exact z
theorem Nb{sc:SC}{i:Int}{k p}:SE prog w YC T sc (.Constant (.int i) k p) (.k (.int i)):=
 Dm (val:=fun t=> .int i t) (fun zz zz zz zz zz q=>wpAny_Constant_int q) fun zz zz zz=> .int _ _
theorem Nf{sc:SC}{k p}:SE prog w YC T sc (.Constant .none k p) (.k .none):=by
 intro env C d hd fr loc H Q E _ _ hw A own s Q' E' I F kq ke
 exact wpAny_Constant_none (kq.now I.ok hw .none s.toks)
theorem Ng{sc:SC}{b:Bool}{k p}:SE prog w YC T sc (.Constant (.bool b) k p) (.k (.bool b)):=by
 intro env C d hd fr loc H Q E _ _ hw A own s Q' E' I F kq ke
 exact wpAny_Constant_bool (kq.now I.ok hw (.bool _) s.toks)
theorem Nh{sc:SC}{x:String}{p:Pos}(hl:sc.lookup (nm x)=some .local∨sc.lookup (nm x)=some .cell)(hd':(nm x==("__debug__":Str))=false)(hz:x≠".0"):SE prog w YC T sc (.Name (nm x) p) (.loc x):=by
 intro env C d hd fr loc H Q E he _ hw A own s Q' E' I F kq ke
 refine aa.el hw ?_;clear hw;intro v hv hw
 rw [←he.names] at hl
 rcases hl with hl | hl
 ·obtain ⟨m,n1,n2⟩:=F.ns
  obtain ⟨val,a,b⟩:=n2 x v hv hl hz
  exact wpAny_Name (wpAny_loadName_local he.kind hl n1.ns a (kq.now I.ok hw b s.toks)) hd'
 ·obtain ⟨c,o,vo,q1,q2,q3,q4,q6,q7⟩:=F.cell (nm x) hl
  obtain ⟨val,r1,r2⟩:=q7 x v rfl hv
  subst r1
  exact wpAny_Name (wpAny_loadName_cell he.kind hl q1 ⟨o,q4,q6⟩ (kq.now I.ok hw r2 s.toks)) hd'
theorem xj(G:Gd prog w YC K T){sc:SC}{x:String}{p:Pos}{v:Value}(hl:sc.lookup (nm x)=some .globalImplicit)(hd':(nm x==("__debug__":Str))=false)(hg:T.glob x=some v):SE prog w YC T sc (.Name (nm x) p) (.k (.con v)):=by
 intro env C d hd fr loc H Q E he _ hw A own s Q' E' I F kq ke
 rw [←he.names] at hl
 obtain ⟨mg,mb,g1,g2,g3⟩:=G.glob
 obtain ⟨hi,g3⟩:=g3 x v hg
 have fin:=kq.now I.ok hw (.con hi) s.toks
 refine Name_function_global he.kind hl ?_ hd'
 rcases g3 with q | ⟨q1,q2⟩
 ·exact loadGlobal_global (by rw [he.globals];exact g1.keeps I.ok.base) q fin
 ·exact loadGlobal_builtin (by rw [he.globals];exact g1.keeps I.ok.base) q1 (by rw [he.builtins];exact g2.keeps I.ok.base) q2 fin
end
end Mine
namespace Mine
open PySem PySem.Calls PyProof.Rows
open PySem.W
open PySem.MeetsSeq PySem.MeetsSeq2 PySem.MeetsSeq3
theorem gB:bh=sizeLine:=by rw [sizeLine_eq];rfl
theorem Ni(x y:Txt):aJ x++aJ y=aJ (x++y):=by
 show (⟨_⟩:Str)=_
 unfold aJ
 simp
theorem jx(x:Txt):(aJ x).length=x.length:=by
 show (aJ x).cps.size=_
 unfold aJ
 simp
section
variable{prog:Program}{w:World}{YC:Heap}{K:Frag}{T:Tab}{own:ak}{H:MH}{h:Heap}
theorem Ok.fresh(O:Ok prog w T YC own H h):H h.objs.size=none:=by
 induction e:H h.objs.size using Option.casesOn with
 | none=>rfl
 | some o=>
  obtain ⟨ox,q⟩:=(O.rep _ _ e).2.there
  exact absurd (Heap.lt_size q) (Nat.lt_irrefl _)
theorem jy{b:Option Addr}{a:Addr}{o:Obj}(e:h.get? a=some o):own.set h.objs.size b a=own a:=by
 unfold ak.set;rw [if_neg (Nat.ne_of_lt (Heap.lt_size e))]
theorem Ok.push(O:Ok prog w T YC own H h)(o:Obj)(b:Option Addr):Ok prog w T YC (own.set h.objs.size b) H (h.push o)∧aH aV own H h (own.set h.objs.size b) H (h.push o):=
 ⟨O.grow (fun zz zz e=>Heap.get?_push_of_some _ e) (fun zz zz e=>jy e), .of_keeps (fun zz zz e=>Heap.get?_push_of_some _ e) fun zz zz e=>jy e⟩
theorem qw{b:Option Addr}:own.set h.objs.size b h.objs.size=b:=if_pos rfl
theorem Ok.newL(O:Ok prog w T YC own H h){xs:List V}{vs:Array Value}(hv:aB own h xs vs.toList):
  Ok prog w T YC (own.set h.objs.size (some h.objs.size)) (H.upd h.objs.size (.list xs)) (h.push {cls:= .type "list",data:= .seq vs})∧
  aH aV own H h (own.set h.objs.size (some h.objs.size)) (H.upd h.objs.size (.list xs)) (h.push {cls:= .type "list",data:= .seq vs}):=by
 obtain ⟨O',X'⟩:=O.push {cls:= .type "list",data:= .seq vs} (some h.objs.size)
 refine ⟨O'.add qw (.list (Heap.get?_push_size _ rfl) (hv.keep X'.tup)), ?_⟩
 exact ⟨X'.same,X'.keep,X'.tups,X'.there,qm O.fresh,X'.tb⟩
theorem Ok.newT(O:Ok prog w T YC own H h){xs:List V}{vs:Array Value}(hv:aB own h xs vs.toList):
  Ok prog w T YC (own.set h.objs.size none) H (h.push {cls:= .type "tuple",data:= .seq vs})∧
  aH aV own H h (own.set h.objs.size none) H (h.push {cls:= .type "tuple",data:= .seq vs})∧VR (own.set h.objs.size none) (h.push {cls:= .type "tuple",data:= .seq vs}) (.tup xs) (.ref h.objs.size):=by
 obtain ⟨O',X'⟩:=O.push {cls:= .type "tuple",data:= .seq vs} none
 exact ⟨O',X', .tup qw (Heap.get?_push_size _ rfl) (hv.keep X'.tup)⟩
end
section
variable{prog:Program}{w:World}{YC:Heap}{K:Frag}{T:Tab}{A:Around}{own:ak}{s:Shared}{H:MH}{Q':Value→Shared→Prop}{E':Value→Shared→Prop}
theorem Nj{a b:Int}(h:a.natAbs<4294967296):IntMulOk a b:= .of_left (intBits_le_64 (by omega) (by omega))
noncomputable def Dn:Bop→Operator
 | .add=> .Add
 | .sub=> .Sub
 | .mul=> .Mult
 | .fdiv=> .FloorDiv
 | .fmod=> .Mod
 | .pow=> .Pow
theorem lB{o:Operator}{b:Bop}(h:jt o=some b):o=Dn b:=by induction o using PySem.Operator.casesOn<;>cases h<;>rfl
theorem Nk{op:Bop}{o:Operator}(ho:jt o=some op){x y z:Int}(hz:su op x y=some z){va vb:Value}{Q:Q1}(hw:Q (.int z) H)(O:Ok prog w T YC own H s.heap)(ra:VR own s.heap (.int x) va)(rb:VR own s.heap (.int y) vb)
  (hQ:KQ prog w YC T VR own H s Q Q'):
  wpAny (model prog w) A (binaryOp o va vb) Q' E' s:=by
 refine VR.k_int ra fun t=> ?_
 refine VR.k_int rb fun u=> ?_
 have fin:∀tk,Q' (.int z tk) (aF s s.heap (tk+1)):=fun tk=>hQ _ H own s.heap (tk+1) _ hw O .refl (.int _ _)
 induction op using Bop.casesOn<;>(have e:=lB ho;dsimp only [Dn] at e;subst e;dsimp only [su] at hz)
 ·obtain rfl:=Option.some.inj hz;exact P.add_int (fin s.toks)
 ·obtain rfl:=Option.some.inj hz;exact P.sub_int (fin s.toks)
 ·split at hz
  ·rename_i q;obtain rfl:=Option.some.inj hz;exact P.mul_int (fin s.toks) (Nj q.1)
  ·exact aG hz
 ·split at hz
  ·rename_i q;obtain rfl:=Option.some.inj hz
   exact floordiv_int (by omega) (fin s.toks) (.inl (PyProof.noPylong_small (by omega)))
  ·exact aG hz
 ·split at hz
  ·rename_i q;obtain rfl:=Option.some.inj hz;exact mod_int' (by omega) (fin s.toks)
  ·exact aG hz
 ·split at hz
  ·rename_i q;obtain rfl:=Option.some.inj hz
   obtain ⟨rfl,q1,q2⟩:=q
   exact pow_int_small q1 (by omega) (by decide) (fin s.toks)
  ·exact aG hz
theorem Nm{x y:Txt}{va vb:Value}{Q:Q1}(hl:(x++y).length≤bh)(hq:Q (.str (x++y)) H)(O:Ok prog w T YC own H s.heap)(ra:VR own s.heap (.str x) va)(rb:VR own s.heap (.str y) vb)
  (hQ:KQ prog w YC T VR own H s Q Q'):
  wpAny (model prog w) A (binaryOp .Add va vb) Q' E' s:=by
 refine VR.k_str ra fun t=> ?_
 refine VR.k_str rb fun u=> ?_
 refine PyProof.Rows.add_str (fun t' tk=> ?_) (by rw [jx,jx,←gB,←List.length_append];exact hl)
 rw [Ni]
 exact hQ _ H own s.heap tk _ hq O .refl (.str _ _)
theorem Np{x:Txt}{y:Int}{va vb:Value}{Q:Q1}(h1:1≤y)(h2:y≤1000)(hx:x.length=1)(hq:Q (.str (List.replicate y.toNat x).flatten) H)(O:Ok prog w T YC own H s.heap)(ra:VR own s.heap (.str x) va)(rb:VR own s.heap (.int y) vb)
  (hQ:KQ prog w YC T VR own H s Q Q'):
  wpAny (model prog w) A (binaryOp .Mult va vb) Q' E' s:=by
 refine VR.k_str ra fun t=> ?_
 refine VR.k_int rb fun u=> ?_
 have hlen:(aJ x).length=1:=by rw [jx];exact hx
 have e:Txt.mul (aJ x) y=aJ (List.replicate y.toNat x).flatten:=by
  unfold Txt.mul
  rw [if_neg (by omega)]
  by_cases hy:y=1
  ·subst hy;simp
  ·rw [if_neg (by rw [hlen];simp;exact hy)]
   unfold aJ
   congr 1
   have key:∀(n:Nat) (acc:Array Nat),(List.replicate n x.toArray).foldl (· ++ ·) acc=acc++(List.replicate n x).flatten.toArray:=by
    intro n
    induction n with
    | zero=>intro acc;simp
    | succ n ih=>intro acc;rw [List.replicate_succ,List.foldl_cons,ih,List.replicate_succ,List.flatten_cons];simp
   rw [key];simp
 refine SB.mul ⟨by rw [Bool.or_eq_false_iff];exact ⟨decide_eq_false (by omega),decide_eq_false (by omega)⟩,fun zz zz=> ?_,fun zz zz=> ?_⟩ fun t' k=> ?_
 ·rw [hlen]
  have:(1:Int)≤(2 ^ 63 - 1) / y:=Int.le_ediv_of_mul_le (by omega) (by omega)
  omega
 ·rw [hlen]
  unfold Builtin.Str.tooLong
  exact decide_eq_false (by rw [sizeLine_eq];omega)
 ·rw [e];exact hQ _ H own s.heap k _ hq O .refl (.str _ _)
theorem Nq{x y:List V}{va vb:Value}{Q:Q1}(hl:(x++y).length≤bh)(hq:Q (.tup (x++y)) H)(O:Ok prog w T YC own H s.heap)(ra:VR own s.heap (.tup x) va)(rb:VR own s.heap (.tup y) vb)
  (hQ:KQ prog w YC T VR own H s Q Q'):
  wpAny (model prog w) A (binaryOp .Add va vb) Q' E' s:=by
 refine VR.k_tup ra fun a1 v1 n1 o1 t1 r1=> ?_
 have ra':VR own s.heap (.tup x) (.ref a1):= .tup o1 t1 r1
 refine VR.k_tup rb fun a2 v2 n2 o2 t2 r2=> ?_
 have rb':VR own s.heap (.tup y) (.ref a2):= .tup o2 t2 r2
 have l1:=r1.length
 have l2:=r2.length
 by_cases e1:v1.isEmpty=true
 ·have:x= []:=by
   have z:v1.toList= []:=by simpa using e1
   rw [z] at l1;exact List.length_eq_zero_iff.mp l1
  subst this
  exact concat_meets ⟨_,t1,rfl⟩ ⟨_,t2,rfl⟩ noFill_tuple_add seq_tuple_add PySem.F.slot_tuple_add PySem.F.entry_tuple_add (PySem.F.args_tuple_add_2 _ _)
   (AutoSeq1.tuple___add___tuple_tuple_0 a1 v1 n1 a2 v2 n2 e1) ⟨t1,t2,hQ _ H own s.heap s.toks _ hq O .refl rb'⟩
 ·by_cases e2:v2.isEmpty=true
  ·have:y= []:=by
    have z:v2.toList= []:=by simpa using e2
    rw [z] at l2;exact List.length_eq_zero_iff.mp l2
   subst this
   rw [List.append_nil] at hq
   exact concat_meets ⟨_,t1,rfl⟩ ⟨_,t2,rfl⟩ noFill_tuple_add seq_tuple_add PySem.F.slot_tuple_add PySem.F.entry_tuple_add (PySem.F.args_tuple_add_2 _ _)
    (AutoSeq1.tuple___add___tuple_tuple_1 a1 v1 n1 a2 v2 n2 e1 e2) ⟨t1,t2,hQ _ H own s.heap s.toks _ hq O .refl ra'⟩
  ·obtain ⟨O',X',R'⟩:=O.newT (xs:=x++y) (vs:=v1++v2) (by rw [Array.toList_append];exact r1.append r2)
   refine P.add_tuple t1 t2 e1 e2 (hQ _ H _ _ s.toks _ hq O' X' R') ?_
   rw [←gB]
   simp only [List.length_append,Array.length_toList] at hl l1 l2
   omega
theorem Nr{x y:Nat}{xs ys:List V}(hx:H x=some (.list xs))(hy:H y=some (.list ys)){va vb:Value}{Q:Q1}(hl:(xs++ys).length≤bh)(hq:∀z,H z= .none→Q (.ref z) (H.upd z (.list (xs++ys))))(O:Ok prog w T YC own H s.heap)(ra:VR own s.heap (.ref x) va)(rb:VR own s.heap (.ref y) vb)
  (hQ:KQ prog w YC T VR own H s Q Q'):
  wpAny (model prog w) A (binaryOp .Add va vb) Q' E' s:=by
 refine VR.k_ref ra ?_
 refine VR.k_ref rb ?_
 refine aU.k_list (O.rep _ _ hx).2 fun v1 n1 l1 r1=> ?_
 refine aU.k_list (O.rep _ _ hy).2 fun v2 n2 l2 r2=> ?_
 obtain ⟨O',X'⟩:=O.newL (xs:=xs++ys) (vs:=v1++v2) (by rw [Array.toList_append];exact r1.append r2)
 have e1:=r1.length
 have e2:=r2.length
 refine P.add_list l1 l2 (hQ _ _ _ _ s.toks _ (hq _ O.fresh) O' X' (.ref _)) ?_
 rw [←gB]
 simp only [List.length_append,Array.length_toList] at hl e1 e2
 omega
theorem Nt{x:Nat}{xs:List V}(hx:H x=some (.list xs)){va vb:Value}{Q:Q1}(hl:xs.length≤1000)(hq:∀z,H z= .none→Q (.ref z) (H.upd z (.list [])))(O:Ok prog w T YC own H s.heap)(ra:VR own s.heap (.ref x) va)(rb:VR own s.heap (.int 0) vb)
  (hQ:KQ prog w YC T VR own H s Q Q'):
  wpAny (model prog w) A (binaryOp .Mult va vb) Q' E' s:=by
 refine VR.k_ref ra ?_
 refine VR.k_int rb fun u=> ?_
 refine aU.k_list (O.rep _ _ hx).2 fun v1 n1 l1 r1=> ?_
 obtain ⟨O',X'⟩:=O.newL (xs:= []) (vs:=#[]) .nil
 have fin:=hQ _ _ _ _ s.toks _ (hq _ O.fresh) O' X' (.ref _)
 refine wpAny_binaryOp_repeat_ref (T:="list") (U:="int") (by decide) ⟨_,l1,rfl⟩ (fun s'=>typeIs_int s' 0 u) noFill_list_mul PySem.F.fills_int_mul PySem.F.slot_int_rmul repeat_list PySem.F.slot_int_index.lookup
  (call_meets PySem.F.slot_int_rmul (typeIs_int s 0 u) PySem.F.entry_int_rmul (PySem.F.args_int_rmul_2 _ _) (lm_int_rmul_list_any 0 u x v1 n1 none #[])
   ⟨l1,rfl,⟨_,l1,rfl⟩,call_meets PySem.F.slot_list_mul ⟨_,l1,rfl⟩ PySem.F.entry_list_mul (PySem.F.args_list_mul_2 _ _)
    (lm_list_mul_any x v1 n1 none #[] 0 u (by decide) (by have z:(0:Int).toNat=0:=rfl;rw [z];omega) (by simp [Builtin.List.listTooLong,sizeLine]))
    ⟨l1, ?_⟩⟩)
 rw [show (if v1.isEmpty=true then 0 else (0:Int).toNat)=0 from by split<;>rfl]
 exact fin
theorem Nu{op:Bop}{o:Operator}(ho:jt o=some op){a b:V}{va vb:Value}{Q:Q1}(hw:pO op a b H Q)(O:Ok prog w T YC own H s.heap)(ra:VR own s.heap a va)(rb:VR own s.heap b vb)
  (hQ:KQ prog w YC T VR own H s Q Q'):
  wpAny (model prog w) A (binaryOp o va vb) Q' E' s:=by
 induction a using V.casesOn with
 | int x=>exact aa.el hw fun y hb h1=>aa.el h1 fun z hz h2=>by obtain rfl:=dN hb;exact Nk ho hz h2 O ra rb hQ
 | str x=>
  induction b using V.casesOn with
  | str y=>obtain ⟨rfl,h1,h2⟩:=hw;obtain rfl:=(show o= .Add from lB ho);exact Nm h1 h2 O ra rb hQ
  | int y=>obtain ⟨rfl,h1,h2,h3,h4⟩:=hw;obtain rfl:=(show o= .Mult from lB ho);exact Np h1 h2 h3 h4 O ra rb hQ
  | _=>exact False.elim hw
 | tup x=>
  induction b using V.casesOn with
  | tup y=>obtain ⟨rfl,h1,h2⟩:=hw;obtain rfl:=(show o= .Add from lB ho);exact Nq h1 h2 O ra rb hQ
  | _=>exact False.elim hw
 | ref x=>
  refine aa.el hw ?_;clear hw;intro xs hx hw
  induction b using V.casesOn with
  | ref y=>exact aa.el hw.2 fun ys hy h=>by obtain rfl:=hw.1;obtain rfl:=(show o= .Add from lB ho);exact Nr (dO hx) (dO hy) h.1 h.2 O ra rb hQ
  | int y=>obtain ⟨rfl,h1,rfl,h2⟩:=hw;obtain rfl:=(show o= .Mult from lB ho);exact Nt (dO hx) h1 h2 O ra rb hQ
  | _=>exact False.elim hw
 | _=>exact False.elim hw
end
end Mine
namespace Mine
open PySem PySem.Calls PyProof.Rows
open PySem.W
theorem oG(x:Txt):(aJ x).cps.toList=x:=by unfold aJ;simp
theorem jz(x:Str):aJ x.cps.toList=x:=by unfold aJ;induction x using PySem.Str.casesOn;simp
section
variable{prog:Program}{w:World}{T:Tab}{own:ak}{H:MH}{h:Heap}{a:Addr}
noncomputable def KV(own:ak)(h:Heap)(es:List (V×V))(kvs:List (Str×Value)):Prop:=es.map (·.1)=kvs.map (fun p=>V.str p.1.cps.toList)∧aB own h (es.map (·.2)) (kvs.map (·.2))
set_option tactic.hygienic true in
theorem aU.dict_str{es:List (V×V)}(R:aU prog w T own h a (.dict es)){k:Txt}(hk:bB es (.str k)=true):∃kvs,h.DictOf (strKind prog w) a kvs∧(a==sysModules)=false∧KV own h es kvs:=by
 cases R with
 | dictS e1 e2 e3 e4=>exact ⟨_,e1,e2,e3,e4⟩
 | dictT e1 e2 e3 e4 e5 e6 e7 e8 e9=>
  rename_i xs o en ep
  induction es using List.casesOn with
  | nil=>
   induction xs using List.casesOn with
   | cons=>cases e7
   | nil=>
    refine ⟨[],⟨o,en,ep,e1,e2,e3, ?_, ?_,List.nodup_nil⟩,e6,rfl, .nil⟩
    ·intro e he
     have:en.toList= []:=e4
     rw [←Array.mem_toList_iff,this] at he;cases he
    ·have:en.toList= []:=e4
     rw [this];exact .nil
  | cons e r=>
   induction xs using List.casesOn with
   | nil=>cases e7
   | cons x xs=>
    simp only [List.map_cons,List.cons.injEq] at e7
    have hk2:vO e.1 (.str k)=true:=(Bool.and_eq_true_iff.1 (Bool.and_eq_true_iff.1 hk).2).1
    rw [e7.1] at hk2
    exact nomatch hk2
theorem xm{s:Str}{k:Txt}:(V.str s.cps.toList).same (.str k)=decide (s=aJ k):=by
 show ((some k==some s.cps.toList) || false)=_
 rw [Bool.or_false]
 by_cases z:s=aJ k
 ·subst z;rw [oG,decide_eq_true rfl];exact beq_self_eq_true _
 ·rw [decide_eq_false z];exact beq_eq_false_iff_ne.mpr fun y=>z (by rw [Option.some.inj y,jz])
theorem KV.find:∀{es:List (V×V)} {kvs:List (Str×Value)},KV own h es kvs→∀(k:Txt),match aW es (.str k) with
  | some x=>∃v,valueAt kvs (aJ k)=some v∧VR own h x v
  | .none=>valueAt kvs (aJ k)=none
 | [],[],_,k=>rfl
 | [],_::_,e,_=>nomatch e.1
 | _::_,[],e,_=>nomatch e.1
 | (k0,x)::es,(s,v)::kvs,⟨e1,e2⟩,k=>by
  simp only [List.map_cons,List.cons.injEq] at e1
  obtain ⟨e1,e3⟩:=e1
  subst e1
  cases e2 with
  | cons a r=>
  have ih:=KV.find ⟨e3,r⟩ k
  unfold aW valueAt at ih ⊢
  rw [List.find?_cons,List.find?_cons]
  dsimp only
  rw [xm]
  induction decide (s=aJ k) using Bool.casesOn with
  | true=>exact ⟨v,rfl,a⟩
  | false=>exact ih
theorem KV.any:∀{es:List (V×V)} {kvs:List (Str×Value)},KV own h es kvs→∀(k:Txt),(kvs.any fun kv=>kv.1=aJ k)=(aW es (.str k)).isSome
 | [],[],_,k=>rfl
 | [],_::_,e,_=>nomatch e.1
 | _::_,[],e,_=>nomatch e.1
 | (k0,x)::es,(s,v)::kvs,⟨e1,e2⟩,k=>by
  simp only [List.map_cons,List.cons.injEq] at e1
  obtain ⟨e1,e3⟩:=e1
  subst e1
  cases e2 with
  | cons a r=>
  have ih:=KV.any ⟨e3,r⟩ k
  unfold aW at ih ⊢
  rw [List.find?_cons,List.any_cons,ih]
  dsimp only
  rw [xm]
  induction decide (s=aJ k) using Bool.casesOn<;>rfl
theorem KV.map_not{x:V}:∀{es:List (V×V)} {kvs:List (Str×Value)},KV own h es kvs→∀(k:Txt) (v:Value),VR own h x v→(kvs.map (·.1)).Nodup→((kvs.any fun kv=>kv.1=aJ k)=true→KV own h (bC es (.str k) x) (kvs.map fun kv=>if kv.1=aJ k then (kv.1,v) else kv))∧((kvs.any fun kv=>kv.1=aJ k)=false→KV own h (bC es (.str k) x) (kvs++ [(aJ k,v)]))
 | [],[],_,k,v,hv,_=>⟨fun e=>(nomatch e),fun zz=>⟨by simp [bC,oG], .cons hv .nil⟩⟩
 | [],_::_,e,_,_,_,_=>nomatch e.1
 | _::_,[],e,_,_,_,_=>nomatch e.1
 | (k0,y)::es,(s,u)::kvs,⟨e1,e2⟩,k,v,hv,hn=>by
  simp only [List.map_cons,List.cons.injEq] at e1
  obtain ⟨e1,e3⟩:=e1
  subst e1
  rw [List.map_cons,List.nodup_cons] at hn
  cases e2 with
  | cons a r=>
  have ih:=KV.map_not ⟨e3,r⟩ k v hv hn.2
  rw [nH]
  dsimp only
  rw [xm]
  by_cases z:s=aJ k
  ·subst z
   rw [decide_eq_true rfl,if_pos rfl]
   refine ⟨fun zz=> ?_,fun e=> ?_⟩
   ·rw [List.map_cons,if_pos rfl,map_store_of_not_mem kvs _ v hn.1]
    exact ⟨by simp [e3], .cons hv r⟩
   ·simp at e
  ·rw [decide_eq_false z,if_neg Bool.false_ne_true]
   refine ⟨fun e=> ?_,fun e=> ?_⟩
   ·rw [List.any_cons,decide_eq_false z,Bool.false_or] at e
    obtain ⟨q1,q2⟩:=ih.1 e
    rw [List.map_cons,if_neg z]
    exact ⟨by simp [q1], .cons a q2⟩
   ·rw [List.any_cons,decide_eq_false z,Bool.false_or] at e
    obtain ⟨q1,q2⟩:=ih.2 e
    exact ⟨by simp [q1], .cons a q2⟩
theorem KV.store{es:List (V×V)}{kvs:List (Str×Value)}(x:KV own h es kvs)(k:Txt){y:V}{v:Value}(hv:VR own h y v)(hn:(kvs.map (·.1)).Nodup):KV own h (bC es (.str k) y) (stored kvs (aJ k) v):=by
 have z:=KV.map_not x k v hv hn
 unfold stored
 induction e:kvs.any fun kv=>kv.1=aJ k using Bool.casesOn with
 | true=>rw [if_pos rfl];exact z.1 e
 | false=>rw [if_neg Bool.false_ne_true];exact z.2 e
theorem KV.keep{YD:ak}{h':Heap}{es:List (V×V)}{kvs:List (Str×Value)}(x:KV own h es kvs)(k:dM own h YD h'):KV YD h' es kvs:=⟨x.1,x.2.keep k⟩
end
theorem Nv{A:Around}{s:Shared}(i:Int)(t u:Tok):SeqAt.EqAt A s (.int i t) (.int i u) true:=by
 have z:=SeqAt.EqAt.int_int (A:=A) (s:=s) i t i u
 rw [beq_self_eq_true] at z;exact z
theorem Nx{A:Around}{s:Shared}(i:Str)(t u:Tok):SeqAt.EqAt A s (.str i t) (.str i u) true:=by
 have z:=SeqAt.EqAt.str_str (A:=A) (s:=s) i t i u
 rw [beq_self_eq_true] at z;exact z
theorem xn(k:Nat):((List.range k).all fun zz=>true)=true:=by simp
theorem Do{A:Around}{s:Shared}{own:ak}{xs ys:List V}{vs us:Array Value}(hl:xs.length=ys.length)(rx:aB own s.heap xs vs.toList)(ry:aB own s.heap ys us.toList)
  (k:∀p∈xs.zip ys,∀{va vb:Value},VR own s.heap p.1 va→VR own s.heap p.2 vb→SeqAt.EqAt A s va vb true) (j:Nat) (h1:j<vs.size) (h2:j<us.size):SeqAt.EqAt A s vs[j] us[j] true:=by
 have l1:j<xs.length:=by rw [rx.len,Array.length_toList];exact h1
 have l2:j<ys.length:=hl▸l1
 obtain ⟨v,e1,r1⟩:=rx.get (List.getElem?_eq_getElem l1)
 obtain ⟨u,e2,r2⟩:=ry.get (List.getElem?_eq_getElem l2)
 rw [Array.getElem?_toList,Array.getElem?_eq_getElem h1] at e1
 rw [Array.getElem?_toList,Array.getElem?_eq_getElem h2] at e2
 obtain rfl:=Option.some.inj e1;obtain rfl:=Option.some.inj e2
 exact k (xs[j],ys[j]) (List.mem_iff_getElem.mpr ⟨j,by simp;omega,by simp⟩) r1 r2
theorem oH{α:Type}{o:Option α}{f:α→Bool}(h:o.any f=true):∃x,o=some x∧f x=true:=match o,h with
 | some x,h=>⟨x,rfl,h⟩
theorem Dp{A:Around}{s:Shared}{own:ak}{a b:V}{va vb:Value}(hs:V.sameF a b=true)(ra:VR own s.heap a va)(rb:VR own s.heap b vb):SeqAt.EqAt A s va vb true:=by
 induction a using V.casesOn with
 | none=>obtain rfl:=mH hs;exact VR.k_none ra (VR.k_none rb (.same _))
 | bool x=>obtain rfl:=mG (eq_of_beq hs);exact VR.k_bool ra (VR.k_bool rb (.same _))
 | int x=>obtain rfl:=dN (eq_of_beq hs);exact VR.k_int ra fun zz=>VR.k_int rb fun zz=>Nv _ _ _
 | str x=>obtain rfl:=lA (eq_of_beq hs);exact VR.k_str ra fun zz=>VR.k_str rb fun zz=>Nx _ _ _
 | _=>exact bz hs
theorem Ny{A:Around}{s:Shared}{prog:Program}{w:World}{T:Tab}{YC:Heap}{own:ak}{H:MH}(O:Ok prog w T YC own H s.heap):∀(n:Nat) (A:Around) {a b:V} {va vb:Value},A.units+n<cLine→V.sameD H n a b=true→VR own s.heap a va→VR own s.heap b vb→SeqAt.EqAt A s va vb true:=by
 intro n
 induction n with
 | zero=>exact fun A zz zz zz zz zz hs ra rb=>Dp hs ra rb
 | succ n ih=>
  intro A a b va vb hu hs ra rb
  have go:∀{xs ys:List V} {vs us:Array Value},ig (V.sameD H n) xs ys=true→aB own s.heap xs vs.toList→aB own s.heap ys us.toList→
    vs.size=us.size∧∀j (h1:j<vs.size) (h2:j<us.size),SeqAt.EqAt A.in1 s vs[j] us[j] true:=fun {xs ys vs us} h rx ry=>by
   obtain ⟨h1,h2⟩:=Bool.and_eq_true_iff.mp h
   have hl:=eq_of_beq h1
   refine ⟨by have:=rx.len;have:=ry.len;simp at*;omega,Do hl rx ry fun p hp=>ih A.in1 (by show A.units+1+n<cLine;omega) (List.all_eq_true.mp h2 p hp)⟩
  rcases Bool.or_eq_true_iff.mp hs with hs | hs
  ·rcases Bool.or_eq_true_iff.mp hs with hs | hs
   ·exact Dp hs ra rb
   ·obtain ⟨xs,ha,hs⟩:=oH hs
    obtain ⟨ys,hb,h2⟩:=oH hs
    obtain rfl:=w5 ha;obtain rfl:=w5 hb
    refine VR.k_tup ra fun a1 v1 n1 o1 t1 r1=>VR.k_tup rb fun a2 v2 n2 o2 t2 r2=> ?_
    by_cases q:a1=a2
    ·subst q;exact .same _
    ·obtain ⟨e,it⟩:=go h2 r1 r2
     have z:=SeqAt.RcAt.tuples (A:=A) (s:=s) (e:=fun zz=>true) ⟨_,t1,rfl,n1,rfl⟩ ⟨_,t2,rfl,n2,rfl⟩ (by omega) it
     rw [xn,show (v1.size==v2.size)=true from beq_iff_eq.mpr e] at z
     exact .of_refs q z
  ·obtain ⟨xs,ha,hs⟩:=oH hs
   obtain ⟨ys,hb,h2⟩:=oH hs
   obtain ⟨x,ha,hx⟩:=Option.bind_eq_some_iff.mp ha
   obtain ⟨y,hb,hy⟩:=Option.bind_eq_some_iff.mp hb
   obtain rfl:=dD ha;obtain rfl:=dD hb
   refine VR.k_ref ra (VR.k_ref rb ?_)
   by_cases q:x=y
   ·subst q;exact .same _
   ·refine aU.k_list (O.rep _ _ (dO hx)).2 fun v1 n1 l1 r1=>aU.k_list (O.rep _ _ (dO hy)).2 fun v2 n2 l2 r2=> ?_
    obtain ⟨e,it⟩:=go h2 r1 r2
    have z:=SeqAt.RcAt.lists (A:=A) (s:=s) (e:=fun zz=>true) ⟨_,l1,rfl,n1,rfl⟩ ⟨_,l2,rfl,n2,rfl⟩ (by omega) (by omega) it
    rw [xn] at z
    exact .of_refs q z
section
variable{prog:Program}{w:World}{YC:Heap}{K:Frag}{T:Tab}{A:Around}{own:ak}{s:Shared}{H:MH}{Q':Value→Shared→Prop}{E':Value→Shared→Prop}
theorem Nz{h:Heap}{xs:List V}{vs:List Value}{is:List Int}(e:pP xs=some is)(r:aB own h xs vs):IntsAre vs is:=by
 induction xs generalizing vs is with
 | nil=>obtain rfl:=Option.some.inj e;exact aB.k_nil r .nil
 | cons x xs ih=>induction x using V.casesOn with
  | int i=>
   refine jV e fun js e1 e2=> ?_
   subst e2
   exact aB.k_cons r fun v us a r=>VR.k_int a fun t=> .cons _ _ (ih e1 r)
  | _=>exact aG e
theorem tU{h:Heap}{xs:List V}{vs:List Value}{ts:List Txt}(e:bU xs=some ts)(r:aB own h xs vs):StrsAre vs (ts.map aJ):=by
 induction xs generalizing vs ts with
 | nil=>obtain rfl:=Option.some.inj e;exact aB.k_nil r .nil
 | cons x xs ih=>induction x using V.casesOn with
  | str i=>
   refine jV e fun js e1 e2=> ?_
   subst e2
   exact aB.k_cons r fun v us a r=>VR.k_str a fun t=> .cons _ _ (ih e1 r)
  | _=>exact aG e
theorem NB{v:Value}(e:pU v=true):(v==Value.none)=false:=by
 induction v using PySem.Value.casesOn<;>first | rfl | exact absurd e Bool.false_ne_true
theorem NK(ts:List Txt)(s:Txt):((ts.map aJ).any fun y=>y==aJ s)=ts.contains s:=by
 induction ts with
 | nil=>rfl
 | cons t r ih=>
  rw [List.map_cons,List.any_cons,ih,List.contains_cons]
  congr 1
  by_cases e:t=s
  ·subst e;simp
  ·rw [beq_eq_false_iff_ne.mpr fun q=>e (tL q),beq_eq_false_iff_ne.mpr (Ne.symm e)]
theorem NP(is:List Int)(i:Int):(is.any fun y=>y==i)=is.contains i:=by
 induction is with
 | nil=>rfl
 | cons t r ih=>
  rw [List.any_cons,ih,List.contains_cons]
  congr 1
  by_cases e:t=i
  ·subst e;rfl
  ·rw [beq_eq_false_iff_ne.mpr e,beq_eq_false_iff_ne.mpr (Ne.symm e)]
theorem NQ{i:Int}{r:Nat}{xs:List V}{is:List Int}{va vb:Value}(hx:H r=some (.list xs))(e1:pP xs=some is)(O:Ok prog w T YC own H s.heap)(ra:VR own s.heap (.int i) va)(rb:VR own s.heap (.ref r) vb):
  ((∀tk,Q' (.bool (is.contains i)) (aF s s.heap tk))→wpAny (model prog w) A (compareOp .In va vb) Q' E' s)∧((∀tk,Q' (.bool (!is.contains i)) (aF s s.heap tk))→wpAny (model prog w) A (compareOp .NotIn va vb) Q' E' s):=by
 refine VR.k_int ra fun t=>VR.k_ref rb (aU.k_list (O.rep _ _ hx).2 fun v1 n1 l1 r1=> ?_)
 have z:=Nz e1 r1
 have L:s.heap.IsList r v1.toList.toArray:=⟨_,l1,rfl,n1,rfl⟩
 rw [←NP]
 exact ⟨fun h=>in_list_ints L z (h s.toks),fun h=>notin_list_ints L z (h s.toks)⟩
theorem NT{i:Txt}{r:Nat}{es:List (V×V)}{va vb:Value}(hx:H r=some (.dict es))(hk:bB es (.str i)=true)(O:Ok prog w T YC own H s.heap)(ra:VR own s.heap (.str i) va)(rb:VR own s.heap (.ref r) vb):
  ((∀tk,Q' (.bool (aW es (.str i)).isSome) (aF s s.heap tk))→wpAny (model prog w) A (compareOp .In va vb) Q' E' s)∧((∀tk,Q' (.bool (!(aW es (.str i)).isSome)) (aF s s.heap tk))→wpAny (model prog w) A (compareOp .NotIn va vb) Q' E' s):=by
 refine VR.k_str ra fun t=>VR.k_ref rb ?_
 obtain ⟨kvs,q1,q2,q3⟩:=(O.rep _ _ hx).2.dict_str hk
 have e':(valueAt kvs (aJ i)).isSome=(aW es (.str i)).isSome:=by
  have e:=KV.find q3 i
  induction q:aW es (.str i) using Option.casesOn with
  | none=>rw [q] at e;rw [show valueAt kvs (aJ i)=none from e];rfl
  | some x=>rw [q] at e;obtain ⟨v,e1,_⟩:=e;rw [e1];rfl
 rw [←e']
 exact ⟨fun h=>wpAny_in_of (strKind_is prog w _ t) q2 q1.mapOf (h _),fun h=>wpAny_notIn_of (strKind_is prog w _ t) q2 q1.mapOf (h _)⟩
theorem NZ{i:Txt}{xs:List V}{ts:List Txt}{va vb:Value}(e1:bU xs=some ts)(ra:VR own s.heap (.str i) va)(rb:VR own s.heap (.tup xs) vb):
  ((∀tk,Q' (.bool (ts.contains i)) (aF s s.heap tk))→wpAny (model prog w) A (compareOp .In va vb) Q' E' s)∧((∀tk,Q' (.bool (!ts.contains i)) (aF s s.heap tk))→wpAny (model prog w) A (compareOp .NotIn va vb) Q' E' s):=by
 refine VR.k_str ra fun t=>VR.k_tup rb fun a1 v1 n1 o1 t1 r1=> ?_
 have z:=tU e1 r1
 have L:IsTup s.heap a1 v1:=⟨_,t1,rfl,n1,rfl⟩
 rw [←NK]
 exact ⟨fun h=>in_tuple_strs L z (h s.toks),fun h=>notin_tuple_strs L z (h s.toks)⟩
theorem N5{c:Nat}{y:Txt}{va vb:Value}(ra:VR own s.heap (.str [c]) va)(rb:VR own s.heap (.str y) vb):
  ((∀tk,Q' (.bool (y.contains c)) (aF s s.heap tk))→wpAny (model prog w) A (compareOp .In va vb) Q' E' s)∧((∀tk,Q' (.bool (!y.contains c)) (aF s s.heap tk))→wpAny (model prog w) A (compareOp .NotIn va vb) Q' E' s):=by
 refine VR.k_str ra fun t=>VR.k_str rb fun t2=> ?_
 have e:(!(Builtin.Str.occurrences (aJ y) (aJ [c]) 0 (aJ y).length 1).isEmpty)=y.contains c:=by
  have:=StrLaws.found_one (aJ y) c
  rw [show aJ [c]=⟨#[c]⟩ from rfl,this,oG]
  exact (List.contains_eq_mem c y).symm
 rw [←e]
 exact ⟨fun h=>PyProof.Rows.in_str (h s.toks),fun h=>PyProof.Rows.notIn_str (h s.toks)⟩
theorem Dq{a b:V}{va vb:Value}{r:Bool}(hc:vR H a b=some r)(O:Ok prog w T YC own H s.heap)(ra:VR own s.heap a va)(rb:VR own s.heap b vb):
  ((∀tk,Q' (.bool r) (aF s s.heap tk))→wpAny (model prog w) A (compareOp .In va vb) Q' E' s)∧((∀tk,Q' (.bool (!r)) (aF s s.heap tk))→wpAny (model prog w) A (compareOp .NotIn va vb) Q' E' s):=by
 induction a using V.casesOn with
 | int i=>
  obtain ⟨x,hr,hc⟩:=Option.bind_eq_some_iff.mp hc
  obtain ⟨xs,hx,hc⟩:=Option.bind_eq_some_iff.mp hc
  obtain ⟨is,e1,rfl⟩:=Option.map_eq_some_iff.mp hc
  obtain rfl:=dD hr
  exact NQ (dO hx) e1 O ra rb
 | str i=>
  induction b using V.casesOn with
  | ref x=>
   obtain ⟨es,hx,hc⟩:=Option.bind_eq_some_iff.mp hc
   obtain ⟨hk,hc⟩:=fV hc;obtain rfl:=Option.some.inj hc
   exact NT (ql hx) hk O ra rb
  | tup xs=>
   obtain ⟨ts,e1,rfl⟩:=Option.map_eq_some_iff.mp hc
   exact NZ e1 ra rb
  | str y=>
   obtain ⟨c,hc1,rfl⟩:=Option.map_eq_some_iff.mp hc
   obtain rfl:=MF hc1
   exact N5 ra rb
  | _=>exact aG hc
 | _=>exact aG hc
theorem Dr{a b:V}{va vb:Value}{r:Bool}(hc:vQ H a b=some r)(O:Ok prog w T YC own H s.heap)(ra:VR own s.heap a va)(rb:VR own s.heap b vb)(hu:A.units+20<cLine):
  ((∀tk,Q' (.bool r) (aF s s.heap tk))→wpAny (model prog w) A (compareOp .Eq va vb) Q' E' s)∧((∀tk,Q' (.bool (!r)) (aF s s.heap tk))→wpAny (model prog w) A (compareOp .NotEq va vb) Q' E' s):=by
 induction a using V.casesOn with
 | int x=>
  obtain ⟨y,hb,rfl⟩:=Option.map_eq_some_iff.mp hc
  obtain rfl:=dN hb
  refine VR.k_int ra fun t=>VR.k_int rb fun u=> ?_
  exact ⟨fun h=>PyProof.Rows.eq_int (h s.toks),fun h=>PyProof.Rows.ne_int (h s.toks)⟩
 | str x=>
  obtain ⟨y,hb,rfl⟩:=Option.map_eq_some_iff.mp hc
  obtain rfl:=lA hb
  refine VR.k_str ra fun t=>VR.k_str rb fun u=> ?_
  have e:(aJ x==aJ y)=(x==y):=by
   by_cases q:x=y
   ·subst q;simp
   ·rw [beq_eq_false_iff_ne.mpr q,beq_eq_false_iff_ne.mpr fun z=>q (tL z)]
  rw [←e]
  exact ⟨fun h=>PyProof.Rows.eq_str (h s.toks),fun h=>PyProof.Rows.ne_str (h s.toks)⟩
 | bool x=>
  obtain ⟨y,hb,rfl⟩:=Option.map_eq_some_iff.mp hc
  obtain rfl:=mG hb
  refine VR.k_bool ra (VR.k_bool rb ?_)
  exact ⟨fun h=>SeqAt.RcAt.bool_bool (A:=A) (s:=s) x y prog w E' Q' (h s.toks),fun h=>SeqAt.RcNeAt.bool_bool (A:=A) (s:=s) x y prog w E' Q' (h s.toks)⟩
 | ref x=>
  obtain ⟨y,hb,h1⟩:=Option.bind_eq_some_iff.mp hc
  obtain rfl:=dD hb
  clear hc
  obtain ⟨xs,hx,h2⟩:=Option.bind_eq_some_iff.mp h1
  obtain ⟨ys,hy,hc⟩:=Option.bind_eq_some_iff.mp h2
  refine VR.k_ref ra (VR.k_ref rb ?_)
  refine aU.k_listN (O.rep _ _ (dO hx)).2 fun v1 n1 l1 r1 e1=> ?_
  refine aU.k_listN (O.rep _ _ (dO hy)).2 fun v2 n2 l2 r2 e2=> ?_
  have L1:s.heap.IsList x v1:=⟨_,l1,rfl,n1,rfl⟩
  have L2:s.heap.IsList y v2:=⟨_,l2,rfl,n2,rfl⟩
  by_cases hl:xs.length=ys.length
  ·rw [if_pos hl] at hc
   split at hc
   ·rename_i hall
    obtain rfl:=Option.some.inj hc
    have items:∀j (h1:j<v1.size) (h2:j<v2.size),SeqAt.EqAt A.in1 s v1[j] v2[j] true:=
     Do hl r1 r2 fun p hp=>Ny (A:=A) O 8 A.in1 (by show A.units+1+8<cLine;omega) (List.all_eq_true.mp (Bool.and_eq_true_iff.mp hall).2 p hp)
    have e:((List.range v1.size).all fun zz=>true)=true:=xn _
    refine ⟨fun h=>SeqAt.RcAt.lists (A:=A) (s:=s) (e:=fun zz=>true) L1 L2 (by omega) (by omega) items prog w E' Q' ?_,fun h=>SeqAt.RcNeAt.lists (A:=A) (s:=s) (e:=fun zz=>true) L1 L2 (by omega) (by omega) items prog w E' Q' ?_⟩
    ·rw [e];exact h s.toks
    ·rw [e];exact h s.toks
   ·exact aG hc
  ·rw [if_neg hl] at hc
   obtain rfl:=Option.some.inj hc
   have hne:(v1.size !=v2.size)=true:=by rw [bne_iff_ne];omega
   exact ⟨fun h=>SeqAt.RcAt.lists_lengths (A:=A) (s:=s) L1 L2 hne (by omega) prog w E' Q' (h s.toks),fun h=>SeqAt.RcNeAt.lists_lengths (A:=A) (s:=s) L1 L2 hne (by omega) prog w E' Q' (h s.toks)⟩
 | _=>exact aG hc
theorem tV{f:Int→Int→Bool}{a b:V}{r:Bool}(h:nO f a b=some r):∃x y,a= .int x∧b= .int y∧r=f x y:=by
 obtain ⟨x,hx,h⟩:=Option.bind_eq_some_iff.mp h
 obtain ⟨y,hy,rfl⟩:=Option.map_eq_some_iff.mp h
 exact ⟨x,y,dN hx,dN hy,rfl⟩
theorem none_of{h:Heap}{a:V}{va:Value}(ra:VR own h a va):(va==Value.none)=isNone a:=by
 cases ra with
 | none=>rfl
 | con e=>exact NB e
 | _=>rfl
theorem tW{op:CmpOp}{a b:V}{va vb:Value}{r:Bool}(hc:sy H (jQ op) a b=some r)(O:Ok prog w T YC own H s.heap)(ra:VR own s.heap a va)(rb:VR own s.heap b vb)(hu:A.units+20<cLine)
  (h:∀tk,Q' (.bool r) (aF s s.heap tk)):wpAny (model prog w) A (compareOp op va vb) Q' E' s:=by
 unfold sy at hc
 induction op using PySem.CmpOp.casesOn<;>dsimp only [jQ] at hc
 ·exact (Dr hc O ra rb hu).1 h
 ·rw [Option.map_eq_some_iff] at hc
  obtain ⟨q,e,rfl⟩:=hc
  exact (Dr e O ra rb hu).2 h
 ·obtain ⟨x,y,rfl,rfl,rfl⟩:=tV hc
  cases ra;cases rb;exact PyProof.Rows.lt_int (h s.toks)
 ·obtain ⟨x,y,rfl,rfl,rfl⟩:=tV hc
  cases ra;cases rb;exact PyProof.Rows.le_int (h s.toks)
 ·obtain ⟨x,y,rfl,rfl,rfl⟩:=tV hc
  cases ra;cases rb;exact PyProof.Rows.gt_int (h s.toks)
 ·obtain ⟨x,y,rfl,rfl,rfl⟩:=tV hc
  cases ra;cases rb;exact PyProof.Rows.ge_int (h s.toks)
 ·obtain ⟨hb,hc⟩:=fV hc
  obtain rfl:=mH hb;cases hc
  refine VR.k_none rb ?_
  refine is_none ?_
  rw [none_of ra];exact h s.toks
 ·obtain ⟨hb,hc⟩:=fV hc
  obtain rfl:=mH hb;cases hc
  refine VR.k_none rb ?_
  refine isNot_none ?_
  rw [none_of ra];exact h s.toks
 ·exact (Dq hc O ra rb).1 h
 ·rw [Option.map_eq_some_iff] at hc
  obtain ⟨q,e,rfl⟩:=hc
  exact (Dq e O ra rb).2 h
end
section
variable{prog:Program}{w:World}{A:Around}{s:Shared}{Q':Value→Shared→Prop}{E':Value→Shared→Prop}
theorem qx{value slice:Expr}{o i:Value}{T id:String}(hT:s.TypeIs o T)
  (hl:typeLookup (.type T) "__getitem__"=pure (some (.builtin id))) (h:wpAny (model prog w) A (getItem o i) Q' E' s)
  (hs:nT slice=true):wpAny (model prog w) A (subscriptTail value slice o i) Q' E' s:=by
 have hs:subscripted slice false o i=operate [o,i] (getItem o i):=by
  induction slice using PySem.Expr.casesOn<;>first | rfl | exact absurd hs Bool.false_ne_true
 unfold subscriptTail
 refine wpAny_bind ?_
 rw [getitemInPython_of_ne hT.not_modules]
 refine wpAny_bind (wpAny_specialOf hT hl ?_)
 have fin:wpAny (model prog w) A (subscripted slice false o i) (fun r s₃=>wpAny (model prog w) A (letTemporaryGo value o r>>=fun zz=>pure r) Q' E' s₃) E' s:=by
  rw [hs]
  exact wpAny_operating (wpAny_mono h (fun r s₃ h₃=>wpAny_bind (wpAny_letTemporaryGo (wpAny_pure h₃))) fun zz zz x=>x)
 first
  | exact wpAny_pure (wpAny_bind fin)
  | exact wpAny_bind (wpAny_pure (wpAny_bind fin))
  | exact wpAny_bind fin
theorem N6{env:Env}{value:Expr}{lower upper:Option Expr}{p pos:Pos}
  (h:wpAny (model prog w) A (eval value env) (fun o s₁=>wpAny (model prog w) A (eval (.Slice lower upper none p) env) (fun i s₂=>(∃T id,s₂.TypeIs o T∧typeLookup (.type T) "__getitem__"=pure (some (.builtin id)))∧wpAny (model prog w) A (getItem o i) Q' E' s₂) E' s₁) E' s):
  wpAny (model prog w) A (eval (.Subscript value (.Slice lower upper none p) pos) env) Q' E' s:=by
 rw [eval_Subscript]
 refine wpAny_bind (wpAny_mono h (fun o s₁ h₁=>wpAny_bind (wpAny_holding (wpAny_mono h₁ (fun i s₂ h₂=>wpAny_bind (wpAny_standAt ?_)) fun zz zz x=>x)))
  fun zz zz x=>x)
 obtain ⟨⟨T,id,hT,hl⟩,h₂⟩:=h₂
 have fin:wpAny (model prog w) A (operate [i,o] (getItem o i)) (fun r s₃=>wpAny (model prog w) A (letTemporaryGo value o r>>=fun zz=>pure r) Q' E' s₃) E' s₂:=
  wpAny_operating (wpAny_mono h₂ (fun r s₃ h₃=>wpAny_bind (wpAny_letTemporaryGo (wpAny_pure h₃))) fun zz zz x=>x)
 refine wpAny_bind ?_
 rw [getitemInPython_of_ne hT.not_modules]
 refine wpAny_bind (wpAny_specialOf hT hl ?_)
 first
  | exact wpAny_pure (wpAny_bind fin)
  | exact wpAny_bind (wpAny_pure (wpAny_bind fin))
  | exact wpAny_bind fin
end
theorem N7{n:Nat}(h:small n=true):n≤16777216:=Nat.le_of_ble_eq_true h
theorem Ds{α:Type}{xs:List α}{p:Nat}{x:α}(h:xs[p]? =some x):p<xs.length:=(List.getElem?_eq_some_iff.mp h).1
theorem Dt{k n:Nat}(h:k<n):(if (0:Int)≤(k:Int) && (k:Int)<(n:Int) then some (k:Int).toNat else none)=some k:=by
 rw [decide_eq_true (Int.natCast_nonneg k),decide_eq_true (Int.ofNat_lt.2 h)];rfl
theorem xq{n:Nat}{i:Int}{p:Nat}(h:cP n i=some p)(hp:p<n):seqIndex? i n=some p∧ -2 ^ 63≤i∧i<2 ^ 63∧(0≤i→p=i.toNat)∧(i<0→p=(i+n).toNat∧ -(n:Int)≤i):=by
 have ⟨hn,h⟩:=fV h
 have hL:=N7 hn
 clear hn
 unfold seqIndex?
 cases i with
 | ofNat k=>
  cases h
  exact ⟨(congrArg (fun j:Int=>if 0≤j && j<(n:Int) then some j.toNat else none) (if_neg (Int.not_lt.2 (Int.natCast_nonneg p)))).trans (Dt hp),Int.le_trans (by decide) (Int.natCast_nonneg p),Int.lt_of_lt_of_le (Int.ofNat_lt.2 (Nat.lt_of_lt_of_le hp hL)) (by decide),fun zz=>rfl,fun z=>absurd z (Int.not_lt.2 (Int.natCast_nonneg p))⟩
 | negSucc k=>
  have ⟨hk,h⟩:=fV h
  have hk:=Nat.le_of_ble_eq_true hk
  cases h
  have e:Int.negSucc k+(n:Int)=((n - (k+1):Nat):Int):=Int.subNatNat_of_le hk
  exact ⟨(congrArg (fun j:Int=>if 0≤j && j<(n:Int) then some j.toNat else none) ((if_pos (Int.negSucc_lt_zero k)).trans e)).trans (Dt hp),Int.le_trans (by decide) (Int.neg_le_neg (Int.ofNat_le.2 (Nat.le_trans hk hL))),Int.lt_trans (Int.negSucc_lt_zero k) (by decide),fun z=>absurd z (Int.not_le.2 (Int.negSucc_lt_zero k)),fun zz=>⟨(congrArg Int.toNat e).symm,Int.neg_le_neg (Int.ofNat_le.2 hk)⟩⟩
section
variable{prog:Program}{w:World}{YC:Heap}{K:Frag}{T:Tab}{A:Around}{own:ak}{s:Shared}{H:MH}{Q':Value→Shared→Prop}{E':Value→Shared→Prop}
theorem Du{value slice:Expr}{r:Nat}{k:Int}{p:Nat}{t:Tok}{v:Value}{v1:Array Value}(L:s.heap.IsList r v1)(hp:cP v1.size k=some p)(q1:v1[p]? =some v)(hs:nT slice=true)
  (h:Q' v s):wpAny (model prog w) A (subscriptTail value slice (.ref r) (.int k t)) Q' E' s:=by
 obtain ⟨z1,z3,z4,z5,z6⟩:=xq hp (Array.getElem?_eq_some_iff.mp q1).1
 refine qx L.typeIs list_getitem_lookup ?_ hs
 by_cases h0:0≤k
 ·exact wpAny_getItem_list L h0 z4 (by rw [←z5 h0];exact q1) h
 ·have ⟨y1,y2⟩:=z6 (Int.not_le.1 h0)
  exact wpAny_getItem_list_neg L (Int.not_le.1 h0) y2 z3 (by rw [←y1];exact q1) h
theorem N8{value slice:Expr}{a i:V}{va vi:Value}{x:V}{Q:Q1}(hc:zW H a i=some x)(hq:Q x H)(O:Ok prog w T YC own H s.heap)(ra:VR own s.heap a va)(ri:VR own s.heap i vi)(hs:nT slice=true)
  (kq:KQ prog w YC T VR own H s Q Q'):wpAny (model prog w) A (subscriptTail value slice va vi) Q' E' s:=by
 induction a using V.casesOn with
 | ref r=>
  refine VR.k_ref ra (cg hc fun o hx h1=> ?_)
  induction o using Mine.O.casesOn with
  | list xs=>
   refine cg h1 fun k hk h2=>cg h2 fun p hp h3=>aU.k_listN (O.rep _ _ hx).2 fun v1 n1 l1 r1 e1=> ?_
   obtain rfl:=dN hk
   refine VR.k_int ri fun t=> ?_
   obtain ⟨v,q1,q2⟩:=r1.get h3
   rw [Array.getElem?_toList] at q1
   rw [e1] at hp
   exact Du ⟨_,l1,rfl,n1,rfl⟩ hp q1 hs (kq.now O hq q2 s.toks)
  | dict es=>
   refine cg h1 fun k hk h2=> ?_
   obtain ⟨ho,h3⟩:=fV h2
   obtain rfl:=lA hk
   refine VR.k_str ri fun t=> ?_
   obtain ⟨kvs,q1,q2,q3⟩:=(O.rep _ _ hx).2.dict_str ho
   have e:=KV.find q3 k
   rw [h3] at e
   obtain ⟨v,e1,e2⟩:=e
   refine qx (T:="dict") ?_ PySem.slot_dict_getitem.lookup ?_ hs
   ·obtain ⟨o,_,_,z1,z2,_⟩:=q1
    exact ⟨o,z1,z2.1⟩
   ·exact wpAny_getItem_of (strKind_is prog w _ t) q1.mapOf e1 (kq.now O hq e2 _)
  | _=>exact aG h1
 | tup xs=>
  refine cg hc fun k hk h1=>cg h1 fun p hp h2=>VR.k_tup ra fun a1 v1 n1 o1 t1 r1=> ?_
  obtain rfl:=dN hk
  refine VR.k_int ri fun t=> ?_
  have e1:xs.length=v1.size:=r1.len.trans Array.length_toList
  obtain ⟨v,q1,q2⟩:=r1.get h2
  rw [Array.getElem?_toList] at q1
  obtain ⟨z1,z3,z4,z5,z6⟩:=xq hp (Ds h2)
  rw [e1] at z1
  exact qx ⟨_,t1,rfl⟩ F.slot_tuple_getitem.lookup (P.getItem_tuple t1 z3 z4 z1 q1 (kq.now O hq q2 s.toks)) hs
 | str str=>
  refine cg hc fun k hk h1=>cg h1 fun p hp h2=>jV h2 fun c hc' e=>VR.k_str ra fun t1=> ?_
  obtain rfl:=dN hk
  subst e
  refine VR.k_int ri fun t=> ?_
  obtain ⟨z1,z3,z4,z5,z6⟩:=xq hp (Ds hc')
  refine qx (typeIs_str s _ _) F.slot_str_getitem.lookup ?_ hs
  refine PyProof.Rows.getItem_str (c:=c) (by rw [Bool.or_eq_false_iff];exact ⟨decide_eq_false (Int.not_lt.2 z3),decide_eq_false (Int.not_le.2 z4)⟩) ?_ (kq.now O hq (.str [c] _) _)
  rw [jx,z1]
  show (aJ str).cps[p]? =some c
  rw [←Array.getElem?_toList,oG];exact hc'
 | _=>exact aG hc
theorem Oa{value slice:Expr}{a i x:V}{va vi:Value}{Q:Q1}(G:qp YC T)(hc:sE T H a i=some x)(hq:Q x H)(O:Ok prog w T YC own H s.heap)(ra:VR own s.heap a va)(ri:VR own s.heap i vi)(hs:nT slice=true)
  (kq:KQ prog w YC T VR own H s Q Q'):wpAny (model prog w) A (subscriptTail value slice va vi) Q' E' s:=by
 induction a using V.casesOn with
 | con w=>
  refine cg hc fun r hr h1=>cg h1 fun xs hl h2=>cg h2 fun k hk h3=>cg h3 fun p hp h4=>jV h4 fun y hx e=> ?_
  subst e
  obtain rfl:=Dh hr
  obtain rfl:=dN hk
  refine VR.k_con ra fun zz=>VR.k_int ri fun t=> ?_
  obtain ⟨v1,⟨o,ho,hcl,n1,hd⟩,rr⟩:=G _ _ hl
  have r1:=rr own s.heap
  have e1:xs.length=v1.size:=by have:=r1.len;simpa using this
  obtain ⟨v,q1,q2⟩:=r1.get (x:= .int y) (i:=p) (by rw [List.getElem?_map,hx];rfl)
  rw [Array.getElem?_toList] at q1
  rw [e1] at hp
  exact Du ⟨o,O.base _ _ ho,hcl,n1,hd⟩ hp q1 hs (kq.now O hq q2 s.toks)
 | _=>dsimp only [sE] at hc;exact N8 hc hq O ra ri hs kq
end
noncomputable def SO(prog:Program)(w:World)(YC:Heap)(T:Tab)(sc:SC)(e:Option Expr)(x:X):Prop:=∀(env:Env) (C:aO) (d:Nat) (hd:Option Nat) (fr:List Env) (loc:Loc) (H:MH) (Q:Q1) (E:E1),cj env sc→eZ prog w YC T C d→
 we T C hd x loc H Q E→∀(A:Around) (own:ak) (s:Shared) (Q':Value→Shared→Prop) (E':Value→Shared→Prop),
 bF prog w YC T fr hd d A own H s.heap→FO YC env own s.heap loc→
 KQ prog w YC T VR own H s Q Q'→KE prog w YC T own H s E E'→wpAny (model prog w) A (evalPart e env) Q' E' s
section
variable{prog:Program}{w:World}{YC:Heap}{K:Frag}{T:Tab}
theorem tX{op:Cop}{a b:V}{H:MH}{Q:Bool→MH→Prop}(h:jo op a b H Q):∃r,sy H op a b=some r∧Q r H:=by
 exact aa.el h fun r hr h=>⟨r,hr,h⟩
theorem Ob{sc:SC}:SO prog w YC T sc none (.k .none):=by
 intro env C d hd fr loc H Q E _ _ hw A own s Q' E' I F kq ke
 exact wpAny_pure (kq.now I.ok hw .none s.toks)
theorem Oc{sc:SC}{e:Expr}{x:X}(h:SE prog w YC T sc e x):SO prog w YC T sc (some e) x:=h
theorem Od{sc:SC}{a b:Expr}{op:Operator}{p:Pos}{o:Bop}{x y:X}(ha:SE prog w YC T sc a x)(hb:SE prog w YC T sc b y)(ho:jt op=some o):SE prog w YC T sc (.BinOp a op b p) (.bin o x y):=by
 intro env C d hd fr loc H Q E he hc hw A own s Q' E' I F kq ke
 refine wpAny_BinOp (ha env C d hd fr loc H _ E he hc hw A own s _ E' I F (fun v H1 YF h1 tk1 va hw1 O1 X1 r1=> ?_) ke)
 refine hb env C d hd fr loc H1 _ E he hc hw1 A YF _ _ E' (I.step O1 X1) (F.keep X1) (fun v2 H2 own2 h2 tk2 vb hw2 O2 X2 r2=> ?_) (ke.step X1)
 exact Nu ho hw2 O2 (r1.keep X2.tup) r2 (kq.step (X1.trans X2))
theorem Oe{sc:SC}{e:Expr}{p:Pos}{x:X}(ha:SE prog w YC T sc e x):SE prog w YC T sc (.UnaryOp .Not e p) (.not x):=by
 intro env C d hd fr loc H Q E he hc hw A own s Q' E' I F kq ke
 refine wpAny_UnaryOp (ha env C d hd fr loc H _ E he hc hw A own s _ E' I F (fun v H1 YF h1 tk1 va hw1 O1 X1 r1=> ?_) ke)
 refine aa.el hw1 ?_;clear hw1;intro _ hb hw1
 obtain rfl:=mG hb
 cases r1
 exact not_value (wpAny_truthy_bool (kq _ _ _ _ tk1 _ hw1 O1 X1 (.bool _)))
theorem Og{sc:SC}{e:Expr}{p:Pos}{x:X}(ha:SE prog w YC T sc e x):SE prog w YC T sc (.UnaryOp .USub e p) (.neg x):=by
 intro env C d hd fr loc H Q E he hc hw A own s Q' E' I F kq ke
 refine wpAny_UnaryOp (ha env C d hd fr loc H _ E he hc hw A own s _ E' I F (fun v H1 YF h1 tk1 va hw1 O1 X1 r1=> ?_) ke)
 refine aa.el hw1 ?_;clear hw1;intro _ hb hw1
 obtain rfl:=dN hb
 cases r1
 exact neg_int (kq _ _ _ _ _ _ hw1 O1 X1 (.int _ _))
theorem Oh{sc:SC}{a b:Expr}{op:CmpOp}{p:Pos}{x y:X}(ha:SE prog w YC T sc a x)(hb:SE prog w YC T sc b y)(hn:gq b=true):SE prog w YC T sc (.Compare a [op] [b] p) (.cmp x (jQ op) y):=by
 have hm:behindInMarks op b=false:=by induction b using PySem.Expr.casesOn<;>first | rfl | exact absurd hn Bool.false_ne_true
 intro env C d hd fr loc H Q E he hc hw A own s Q' E' I F kq ke
 refine wpAny_Compare1 (ha env C d hd fr loc H _ E he hc hw A own s _ E' I F (fun v H1 YF h1 tk1 va hw1 O1 X1 r1=> ?_) ke) hm
 refine hb env C d hd fr loc H1 _ E he hc hw1 A YF _ _ E' (I.step O1 X1) (F.keep X1) (fun v2 H2 own2 h2 tk2 vb hw2 O2 X2 r2=> ?_) (ke.step X1)
 obtain ⟨r,hr,hw2⟩:=tX hw2
 exact tW hr O2 (r1.keep X2.tup) r2 (I.ao.u (by decide)) fun tk=>kq _ _ _ _ tk _ hw2 O2 (X1.trans X2) (.bool r)
theorem Oi{sc:SC}{a b:Expr}{op:CmpOp}{p:Pos}{x y:X}(ha:SE prog w YC T sc a x)(hb:SE prog w YC T sc b y)(hn:gq b=true):fc prog w YC T sc (.Compare a [op] [b] p) (.cmp x (jQ op) y):=by
 have hm:behindInMarks op b=false:=by induction b using PySem.Expr.casesOn<;>first | rfl | exact absurd hn Bool.false_ne_true
 intro env C d hd fr loc H Q E he hc hw A own s Q' E' I F kq ke
 refine wpAny_isTrue_Compare1 (ha env C d hd fr loc H _ E he hc hw A own s _ E' I F (fun v H1 YF h1 tk1 va hw1 O1 X1 r1=> ?_) ke) hm
 refine hb env C d hd fr loc H1 _ E he hc hw1 A YF _ _ E' (I.step O1 X1) (F.keep X1) (fun v2 H2 own2 h2 tk2 vb hw2 O2 X2 r2=> ?_) (ke.step X1)
 obtain ⟨r,hr,hw2⟩:=tX hw2
 exact tW hr O2 (r1.keep X2.tup) r2 (I.ao.u (by decide)) fun tk=>wpAny_truthy_bool (kq _ _ _ _ tk _ hw2 O2 (X1.trans X2) rfl)
theorem Oj{sc:SC}{a b c:Expr}{op op':CmpOp}{p:Pos}{x y z:X}(ha:SE prog w YC T sc a x)(hb:SE prog w YC T sc b y)(hcc:SE prog w YC T sc c z)(hn:gq c=true):fc prog w YC T sc (.Compare a [op,op'] [b,c] p) (.cmp2 x (jQ op) y (jQ op') z):=by
 have hm:behindInMarks op' c=false:=by induction c using PySem.Expr.casesOn<;>first | rfl | exact absurd hn Bool.false_ne_true
 intro env C d hd fr loc H Q E he hc hw A own s Q' E' I F kq ke
 refine isTrue_chain (ha env C d hd fr loc H _ E he hc hw A own s _ E' I F (fun v H1 YF h1 tk1 va hw1 O1 X1 r1=> ?_) ke) (by simpa [lastMarks] using hm)
 refine test_link (hb env C d hd fr loc H1 _ E he hc hw1 A YF _ _ E' (I.step O1 X1) (F.keep X1) (fun v2 H2 own2 h2 tk2 vb hw2 O2 X2 r2=> ?_) (ke.step X1))
 obtain ⟨r,hr,hw2⟩:=tX hw2
 refine tW hr O2 (r1.keep X2.tup) r2 (I.ao.u (by decide)) fun tk=>wpAny_truthy_bool ?_
 induction r using Bool.casesOn with
 | false=>
  rw [if_neg Bool.false_ne_true]
  exact kq _ _ _ _ tk _ hw2 O2 (X1.trans X2) rfl
 | true=>
  rw [if_pos rfl]
  refine test_last (hcc env C d hd fr loc H2 _ E he hc hw2 A own2 _ _ E' (I.step O2 (X1.trans X2)) (F.keep (X1.trans X2)) (fun v3 H3 own3 h3 tk3 vc hw3 O3 X3 r3=> ?_) (ke.step (X1.trans X2)))
  obtain ⟨r',hr',hw3⟩:=tX hw3
  exact tW hr' O3 (r2.keep X3.tup) r3 (I.ao.u (by decide)) fun tk=>wpAny_truthy_bool (kq _ _ _ _ tk _ hw3 O3 ((X1.trans X2).trans X3) rfl)
theorem Ol{sc:SC}{e:Expr}{x y z:X}{o o':Cop}:SE prog w YC T sc e (.cmp2 x o y o' z):=by
 intro env C d hd fr loc H Q E _ _ hw A own s Q' E' I F kq ke
 exact hw.elim
theorem Om{sc:SC}{c a b:Expr}{p:Pos}{x y z:X}(hcc:fc prog w YC T sc c x)(ha:SE prog w YC T sc a y)(hb:SE prog w YC T sc b z):SE prog w YC T sc (.IfExp c a b p) (.ite x y z):=by
 intro env C d hd fr loc H Q E he hc hw A own s Q' E' I F kq ke
 refine wpAny_IfExp (hcc env C d hd fr loc H _ E he hc hw A own s _ E' I F (fun v H1 YF h1 tk1 va hw1 O1 X1 r1=> ?_) ke)
 subst r1
 induction v using Bool.casesOn with
 | true=>exact ha env C d hd fr loc H1 _ E he hc hw1 A YF _ _ E' (I.step O1 X1) (F.keep X1) (kq.step X1) (ke.step X1)
 | false=>exact hb env C d hd fr loc H1 _ E he hc hw1 A YF _ _ E' (I.step O1 X1) (F.keep X1) (kq.step X1) (ke.step X1)
theorem Oo{sc:SC}{c a b:Expr}{p:Pos}{x y z:X}(hcc:fc prog w YC T sc c x)(ha:fc prog w YC T sc a y)(hb:fc prog w YC T sc b z):fc prog w YC T sc (.IfExp c a b p) (.ite x y z):=by
 intro env C d hd fr loc H Q E he hc hw A own s Q' E' I F kq ke
 rw [arm_isTrue_IfExp]
 refine wpAny_bind (hcc env C d hd fr loc H _ E he hc hw A own s _ E' I F (fun v H1 YF h1 tk1 va hw1 O1 X1 r1=> ?_) ke)
 subst r1
 induction v using Bool.casesOn with
 | true=>exact ha env C d hd fr loc H1 _ E he hc hw1 A YF _ _ E' (I.step O1 X1) (F.keep X1) (kq.step X1) (ke.step X1)
 | false=>exact hb env C d hd fr loc H1 _ E he hc hw1 A YF _ _ E' (I.step O1 X1) (F.keep X1) (kq.step X1) (ke.step X1)
set_option tactic.hygienic true in
theorem Oq{sc:SC}{e:Expr}{p:Pos}{x:X}(ha:fc prog w YC T sc e x):fc prog w YC T sc (.UnaryOp .Not e p) (.not x):=by
 intro env C d hd fr loc H Q E he hc hw A own s Q' E' I F kq ke
 exact wpAny_isTrue_Not (ha env C d hd fr loc H _ E he hc hw A own s _ E' I F (fun v H1 YF h1 tk1 va hw1 O1 X1 r1=>kq (!v) H1 YF h1 tk1 (!va) hw1 O1 X1 (by rw [r1])) ke)
set_option tactic.hygienic true in
theorem Ot{sc:SC}{e:Expr}{x:X}(ha:SE prog w YC T sc e x)(hp:Dl e=true)
  (hx:∀C hd loc H Q E,wc T C hd x loc H (fun q=>we T C hd x loc H q E) Q E→we T C hd x loc H (vX Q) E):fc prog w YC T sc e x:=by
 intro env C d hd fr loc H Q E he hc hw A own s Q' E' I F kq ke
 refine wpAny_isTrue_value (ha env C d hd fr loc H _ E he hc (hx _ _ _ _ _ _ hw) A own s _ E' I F (fun v H1 YF h1 tk1 va hw1 O1 X1 r1=> ?_) ke) ?_
 ·refine aa.el hw1 ?_;clear hw1;intro _ hb hw1
  obtain rfl:=mG hb
  cases r1
  exact wpAny_truthy_bool (kq _ _ _ _ tk1 _ hw1 O1 X1 rfl)
 ·induction e using PySem.Expr.casesOn<;>first | rfl | exact absurd hp Bool.false_ne_true | (rename_i op _ _;induction op using PySem.UnaryOp.casesOn<;>first | rfl | exact absurd hp Bool.false_ne_true)
theorem Ou{sc:SC}{op:BoolOp}{es:List Expr}{p:Pos}{xs:List X}(ha:qu prog w YC T sc es xs):fc prog w YC T sc (.BoolOp op es p) (.bop (op== .And) xs):=by
 intro env C d hd fr loc H Q E he hc hw A own s Q' E' I F kq ke
 exact wpAny_isTrue_BoolOp (ha env C d hd fr loc H Q E op he hc hw A own s Q' E' I F kq ke)
theorem Ov{sc:SC}{op:BoolOp}{es:List Expr}{p:Pos}{xs:List X}(ha:qt prog w YC T sc es xs):SE prog w YC T sc (.BoolOp op es p) (.bop (op== .And) xs):=by
 intro env C d hd fr loc H Q E he hc hw A own s Q' E' I F kq ke
 exact ha env C d hd fr loc H Q E p op he hc hw A own s Q' E' I F kq ke
theorem Ow{sc:SC}:qu prog w YC T sc [] []:=by
 intro env C d hd fr loc H Q E op he hc hw A own s Q' E' I F kq ke
 exact wpAny_pure (kq.now I.ok hw rfl s.toks)
theorem Ox{sc:SC}{e:Expr}{es:List Expr}{x:X}{xs:List X}(ha:fc prog w YC T sc e x)(hb:qu prog w YC T sc es xs):qu prog w YC T sc (e::es) (x::xs):=by
 intro env C d hd fr loc H Q E op he hc hw A own s Q' E' I F kq ke
 induction op using PySem.BoolOp.casesOn with
 | And=>
  refine wpAny_allTrue_And_cons (ha env C d hd fr loc H _ E he hc hw A own s _ E' I F (fun v H1 YF h1 tk1 va hw1 O1 X1 r1=> ?_) ke)
  subst r1
  induction v using Bool.casesOn with
  | true=>exact hb env C d hd fr loc H1 Q E .And he hc hw1 A YF _ _ E' (I.step O1 X1) (F.keep X1) (kq.step X1) (ke.step X1)
  | false=>exact kq _ _ _ _ tk1 _ hw1 O1 X1 rfl
 | Or=>
  refine wpAny_allTrue_Or_cons (ha env C d hd fr loc H _ E he hc hw A own s _ E' I F (fun v H1 YF h1 tk1 va hw1 O1 X1 r1=> ?_) ke)
  subst r1
  induction v using Bool.casesOn with
  | true=>exact kq _ _ _ _ tk1 _ hw1 O1 X1 rfl
  | false=>exact hb env C d hd fr loc H1 Q E .Or he hc hw1 A YF _ _ E' (I.step O1 X1) (F.keep X1) (kq.step X1) (ke.step X1)
theorem Oz{sc:SC}:qt prog w YC T sc [] []:=by
 intro env C d hd fr loc H Q E pos op he hc hw A own s Q' E' I F kq ke
 exact hw.elim
theorem OD{sc:SC}{e:Expr}{es:List Expr}{x:X}{xs:List X}(ha:SE prog w YC T sc e x)(hb:qt prog w YC T sc es xs)(hl:es.length=xs.length):qt prog w YC T sc (e::es) (x::xs):=by
 intro env C d hd fr loc H Q E pos op he hc hw A own s Q' E' I F kq ke
 induction xs using List.casesOn with
 | nil=>
  have:es= []:=List.length_eq_zero_iff.mp hl
  subst this
  exact ha env C d hd fr loc H Q E he hc hw A own s Q' E' I F kq ke
 | cons x2 xs=>
  induction es using List.casesOn with
  | nil=>cases hl
  | cons e2 es=>
  show wpAny _ _ (do
   let v←eval e env
   standAt pos
   let t←holding [v] (truthy v)
   match op,t with
   | .And,false | .Or,true=>pure v
   | _,_=>boolOp pos op (evalEach (e2::es) env)) Q' E' s
  refine wpAny_bind (ha env C d hd fr loc H _ E he hc hw A own s _ E' I F (fun v H1 YF h1 tk1 va hw1 O1 X1 r1=> ?_) ke)
  refine aa.el hw1 ?_;clear hw1;intro b hv hw1
  obtain rfl:=mG hv
  cases r1
  refine wpAny_bind (wpAny_standAt (wpAny_bind (wpAny_holding (wpAny_truthy_bool ?_))))
  induction op using PySem.BoolOp.casesOn<;>induction b using Bool.casesOn
  ·exact wpAny_pure (kq _ _ _ _ tk1 _ hw1 O1 X1 (.bool _))
  ·exact hb env C d hd fr loc H1 Q E pos .And he hc hw1 A YF _ _ E' (I.step O1 X1) (F.keep X1) (kq.step X1) (ke.step X1)
  ·exact hb env C d hd fr loc H1 Q E pos .Or he hc hw1 A YF _ _ E' (I.step O1 X1) (F.keep X1) (kq.step X1) (ke.step X1)
  ·exact wpAny_pure (kq _ _ _ _ tk1 _ hw1 O1 X1 (.bool _))
theorem Dv{sc:SC}:SL prog w YC T sc [] []:=by
 intro env C d hd fr loc H Q E pos he hc hw A own s Q' E' I F kq ke
 exact wpAny_items_nil (kq.now I.ok hw .nil s.toks)
theorem Dw{sc:SC}{e:Expr}{es:List Expr}{x:X}{xs:List X}(ha:SE prog w YC T sc e x)(hn:fQ e=true)(hb:SL prog w YC T sc es xs):SL prog w YC T sc (e::es) (x::xs):=by
 intro env C d hd fr loc H Q E pos he hc hw A own s Q' E' I F kq ke
 refine wpAny_items_cons (ha env C d hd fr loc H _ E he hc hw A own s _ E' I F (fun v H1 YF h1 tk1 va hw1 O1 X1 r1=> ?_) ke) ?_
 ·exact hb env C d hd fr loc H1 _ E pos he hc hw1 A YF _ _ E' (I.step O1 X1) (F.keep X1) (fun vs H2 own2 h2 tk2 YG hw2 O2 X2 r2=>kq _ _ _ _ _ _ hw2 O2 (X1.trans X2) (.cons (r1.keep X2.tup) r2)) (ke.step X1)
 ·induction e using PySem.Expr.casesOn<;>first | rfl | exact absurd hn Bool.false_ne_true
theorem xr{C:aO}{hd:Option Nat}{loc:Loc}{E:E1}:∀(xs:List X) (H:MH) (Q:List V→MH→Prop),gm T C hd xs loc H Q E=gm T C hd xs loc H (fun vs H'=>vs.length=xs.length∧Q vs H') E
 | [],H,Q=>propext ⟨fun h=>⟨rfl,h⟩,fun h=>h.2⟩
 | x::r,H,Q=>by
  refine congrArg (fun q=>we T C hd x loc H q E) (funext fun v=>funext fun H1=> ?_)
  show gm T C hd r loc H1 (fun vs H2=>Q (v::vs) H2) E=gm T C hd r loc H1 (fun vs H2=>(v::vs).length=(x::r).length∧Q (v::vs) H2) E
  rw [xr r]
  exact congrArg (fun q=>gm T C hd r loc H1 q E) (funext fun vs=>funext fun H2=>congrArg (· ∧_) (Nat.succ.injEq _ _).symm)
theorem Dy{n:Nat}(h:pL n=true):n≤1000:=Nat.le_of_ble_eq_true h
theorem OJ{sc:SC}{es:List Expr}{p:Pos}{xs:List X}(ha:SL prog w YC T sc es xs):SE prog w YC T sc (.List es p) (.list xs):=by
 intro env C d hd fr loc H Q E he hc hw A own s Q' E' I F kq ke
 obtain ⟨hf,hw⟩:=hw
 have hf:=Dy hf
 rw [xr] at hw
 refine wpAny_List (ha env C d hd fr loc H _ E p he hc hw A own s _ E' I F (fun vs H1 YF h1 tk1 YG hw1 O1 X1 r1=> ?_) ke)
 obtain ⟨hl,hq⟩:=hw1
 refine ⟨by rw [←r1.length,hl,sizeLine_eq];omega, ?_⟩
 obtain ⟨O2,X2⟩:=O1.newL (xs:=vs) (vs:=YG.toArray) r1
 exact kq _ _ _ _ tk1 _ (hq _ O1.fresh) O2 (X1.trans X2) (.ref _)
theorem Pa{sc:SC}{es:List Expr}{k:Nat}{p:Pos}{xs:List X}(ha:SL prog w YC T sc es xs):SE prog w YC T sc (.Tuple es k p) (.tup xs):=by
 intro env C d hd fr loc H Q E he hc hw A own s Q' E' I F kq ke
 obtain ⟨hf,hw⟩:=hw
 have hf:=Dy hf
 rw [xr] at hw
 refine wpAny_Tuple (ha env C d hd fr loc H _ E p he hc hw A own s _ E' I F (fun vs H1 YF h1 tk1 YG hw1 O1 X1 r1=> ?_) ke)
 obtain ⟨hl,hq⟩:=hw1
 refine ⟨by rw [←r1.length,hl,sizeLine_eq];omega, ?_⟩
 obtain ⟨O2,X2,R2⟩:=O1.newT (xs:=vs) (vs:=YG.toArray) r1
 exact kq _ _ _ _ tk1 _ hq O2 (X1.trans X2) R2
theorem Pb(L:qp YC T){sc:SC}{a i:Expr}{p:Pos}{x y:X}(ha:SE prog w YC T sc a x)(hb:SE prog w YC T sc i y)(hn:nT i=true):SE prog w YC T sc (.Subscript a i p) (.sub x y):=by
 intro env C d hd fr loc H Q E he hc hw A own s Q' E' I F kq ke
 refine Subscript_ (ha env C d hd fr loc H _ E he hc hw A own s _ E' I F (fun v H1 YF h1 tk1 va hw1 O1 X1 r1=> ?_) ke)
 refine hb env C d hd fr loc H1 _ E he hc hw1 A YF _ _ E' (I.step O1 X1) (F.keep X1) (fun v2 H2 own2 h2 tk2 vb hw2 O2 X2 r2=> ?_) (ke.step X1)
 exact aa.el hw2 fun x' hx h=>Oa L hx h O2 (r1.keep X2.tup) r2 hn (kq.step (X1.trans X2))
end
theorem Dz{v:V}(h:jq v=some none):v= .none:=by
 induction v using V.casesOn with
 | none=>rfl
 | int i=>
  have h:(if 0≤i∧i<1000000000 then some (some i.toNat) else none)=some none:=h
  by_cases q:0≤i∧i<1000000000
  ·rw [if_pos q] at h;exact jN (Option.some.inj h)
  ·rw [if_neg q] at h;exact aG h
 | _=>exact aG h
theorem DG{v:V}{n:Nat}(h:jq v=some (some n)):v= .int n:=by
 induction v using V.casesOn with
 | none=>exact aG (Option.some.inj h)
 | int i=>
  have h:(if 0≤i∧i<1000000000 then some (some i.toNat) else none)=some (some n):=h
  by_cases q:0≤i∧i<1000000000
  ·rw [if_pos q] at h;exact congrArg V.int ((Int.toNat_of_nonneg q.1).symm.trans (congrArg Int.ofNat (Option.some.inj (Option.some.inj h))))
  ·rw [if_neg q] at h;exact aG h
 | _=>exact aG h
theorem DK{own:ak}{h:Heap}{v:V}{va:Value}{e:Option Nat}(r:VR own h v va)(he:jq v=some e):IsPart va (e.map fun n:Nat=>(n:Int)):=by
 induction e using Option.casesOn with
 | none=>rw [Dz he] at r;cases r;exact .none
 | some n=>rw [DG he] at r;cases r;exact .int _ _
theorem Pg{α:Type}{l:List α}{n k:Nat}(h:l.length≤k):l.drop (min n k)=l.drop n:=by rw [List.drop_eq_drop_iff,Nat.min_assoc,Nat.min_eq_right h]
theorem Ph{α:Type}{l:List α}{n k:Nat}(h:l.length≤k):l.take (min n k)=l.take n:=by rw [List.take_eq_take_iff,Nat.min_assoc,Nat.min_eq_right h]
theorem DN{α:Type}{l:List α}{k:Nat}{lo:Option Nat}(h:l.length≤k):l.drop ((lo.map fun n:Nat=>(n:Int)).elim 0 (clipAt k))=l.drop (lo.getD 0):=by
 induction lo using Option.casesOn with
 | none=>rfl
 | some n=>exact (congrArg (fun k=>l.drop k) (clipAt_nat k n)).trans (Pg h)
theorem Pj(items:Array Value)(lo hi:Option Nat):slicePick items (lo.map fun n:Nat=>(n:Int)) (hi.map fun n:Nat=>(n:Int)) none=(cI items.toList lo hi).toArray:=by
 rw [slicePick_plain,←List.drop_take]
 refine congrArg List.toArray ?_
 induction hi using Option.casesOn with
 | none=>exact (congrArg (List.drop _) (List.take_of_length_le (Nat.le_refl _))).trans (DN (Nat.le_refl _))
 | some h=>exact (congrArg (List.drop _) ((congrArg (fun k=>items.toList.take k) (clipAt_nat _ h)).trans (Ph (Nat.le_refl _)))).trans (DN (List.length_take_le' _ _))
section
variable{prog:Program}{w:World}{YC:Heap}{K:Frag}{T:Tab}
theorem aB.cut{own:ak}{h:Heap}{xs:List V}{vs:List Value}(r:aB own h xs vs)(lo hi:Option Nat):aB own h (cI xs lo hi) (cI vs lo hi):=by
 unfold cI
 induction hi using Option.casesOn with
 | none=>exact r.drop _
 | some n=>exact (r.take n).drop _
theorem Pk(n k:Nat):max (0:Int) (min (n:Int) (k:Int))=((min n k:Nat):Int):=by
 rcases Nat.le_total n k with h | h
 ·rw [Nat.min_eq_left h,Int.min_eq_left (Int.ofNat_le.2 h)];exact Int.max_eq_right (Int.natCast_nonneg _)
 ·rw [Nat.min_eq_right h,Int.min_eq_right (Int.ofNat_le.2 h)];exact Int.max_eq_right (Int.natCast_nonneg _)
theorem Pn{x:Txt}{t:Tok}{n:Nat}{u:Tok}{Q:Value→Shared→Prop}{s:Shared}(hl:(cI x none (some n)).length≤bh)(h:∀t tk,Q (.str (aJ (cI x none (some n))) t) (aF s s.heap tk)):
  (sliceMade (aJ x) t none (some ((n:Int),u)) none).post Q s:=by
 have e:slicePicked (aJ x) none (some ((n:Int),u)) none=(List.range (min n x.length)).map (0+ ·):=by
  unfold slicePicked
  show Builtin.Str.strSliceIndices none (some (n:Int)) 1 (aJ x).length=_
  unfold Builtin.Str.strSliceIndices
  show sliceRange 0 (max (0:Int) (min (if (n:Int)<0 then (n:Int)+((aJ x).length:Nat) else (n:Int)) ((aJ x).length:Nat))) 1=_
  rw [if_neg (Int.not_lt.2 (Int.natCast_nonneg n)),jx,Pk]
  exact sliceRange_one 0 (min n x.length)
 have e2:((List.range (min n x.length)).map (0+ ·)).filterMap ((aJ x).cps[·]?)=cI x none (some n):=by
  rw [pick_run,oG]
  unfold cI
  simp only [Option.getD_none,List.drop_zero]
  rw [List.take_eq_take_iff]
  simp
 unfold sliceMade
 split
 ·rename_i hc
  rw [e,Bool.and_eq_true] at hc
  have:min n x.length=x.length:=by
   have:=eq_of_beq hc.2
   simpa [jx] using this
  have e3:cI x none (some n)=x:=by
   unfold cI
   simp only [Option.getD_none,List.drop_zero]
   exact List.take_of_length_le (this▸Nat.min_le_left n x.length)
  have z:=h t s.toks
  rw [e3] at z
  exact z
 ·rw [e,e2]
  refine ⟨?_, ?_⟩
  ·show (cI x none (some n)).toArray.size≤sizeLine
   rw [List.size_toArray,←gB];exact hl
  ·exact h _ _
theorem Pq{sc:SC}{a:Expr}{lo hi:Option Expr}{p p':Pos}{x l h:X}(ha:SE prog w YC T sc a x)(hlo:SO prog w YC T sc lo l)(hhi:SO prog w YC T sc hi h):SE prog w YC T sc (.Subscript a (.Slice lo hi none p') p) (.slice x l h):=by
 intro env C d hd fr loc H Q E he hc hw A own s Q' E' I F kq ke
 refine N6 (ha env C d hd fr loc H _ E he hc hw A own s _ E' I F (fun v H1 YF h1 tk1 va hw1 O1 X1 r1=> ?_) ke)
 refine wpAny_Slice (hlo env C d hd fr loc H1 _ E he hc hw1 A YF _ _ E' (I.step O1 X1) (F.keep X1) (fun lv H2 own2 h2 tk2 vl hw2 O2 X2 r2=> ?_) (ke.step X1))
 refine hhi env C d hd fr loc H2 _ E he hc hw2 A own2 _ _ E' (I.step O2 (X1.trans X2)) (F.keep (X1.trans X2)) (fun hv H3 own3 h3 tk3 vh hw3 O3 X3 r3=> ?_) (ke.step (X1.trans X2))
 rw [evalPart_none]
 refine wpAny_pure ?_
 have X13:=(X1.trans X2).trans X3
 have r1':=r1.keep (X2.trans X3).tup
 have r2':=r2.keep X3.tup
 obtain ⟨O4,X4⟩:=O3.push {cls:= .type "slice",data:= .fields #[vl,vh, .none]} none
 have r1'':=r1'.keep X4.tup
 refine aa.el hw3 fun l' e1 h4=>aa.el h4 fun h' e2 h5=> ?_
 have p1:=DK r2' e1
 have p2:=DK r3 e2
 clear hw3 h4
 induction v using V.casesOn with
 | str str=>
  obtain ⟨rfl,hh,hl,hq⟩:=h5
  obtain rfl:=Dz e1
  induction h' using Option.casesOn with
  | none=>exact bz hh
  | some n=>
  obtain rfl:=DG e2
  obtain rfl:=r2'.e_none
  obtain ⟨u,rfl⟩:=r3.e_int
  refine VR.k_str r1' fun t=> ?_
  refine ⟨⟨"str",_,typeIs_str _ _ _,PySem.F.slot_str_getitem.lookup⟩, ?_⟩
  refine wpAny_getItem_str_slice (l:=none) (u:=some ((n:Int),u)) (st:=none) ⟨_,Heap.get?_push_size _ rfl,rfl,rfl⟩ rfl (Pn hl fun t tk=> ?_)
  exact kq _ _ _ _ tk _ hq O4 (X13.trans X4) (.str _ _)
 | ref r=>
  refine aa.el h5 fun xs hx h6=> ?_
  obtain ⟨hl,hq⟩:=h6
  refine VR.k_ref r1' (aU.k_listN (O4.rep _ _ (dO hx)).2 fun v1 n1 l1 rr e3=> ?_)
  have L:(h3.push {cls:= .type "slice",data:= .fields #[vl,vh, .none]}).IsList r v1:=⟨_,l1,rfl,n1,rfl⟩
  refine ⟨⟨"list",_,L.typeIs (s:=(aF s _ tk3)),list_getitem_lookup⟩, ?_⟩
  obtain ⟨O5,X5⟩:=O4.newL (xs:=cI xs l' h') (vs:=(cI v1.toList l' h').toArray) (rr.cut l' h')
  refine wpAny_getItem_list_slice L (Heap.IsSliceOf.new ..) p1 p2 .none (by simp) ?_ (by rw [←e3,←gB];exact hl)
  rw [Pj]
  exact kq _ _ _ _ tk3 _ (hq _ O4.fresh) O5 ((X13.trans X4).trans X5) (.ref _)
 | _=>exact h5.elim
end
theorem VR.handed{own:ak}{h:Heap}{x:V}{v:Value}(r:VR own h x v):handedIn v=true:=by
 cases r with
 | con e=>induction v using PySem.Value.casesOn<;>first | rfl | exact e | exact absurd e Bool.false_ne_true
 | _=>rfl
theorem DP{o:Expr}{n:Str}{env:Env}{whole:Sem Value}(h:pW o=true):attributeBase o n env whole=whole:=by
 induction o using PySem.Expr.casesOn with
 | Call f as kw p=>induction f using PySem.Expr.casesOn with
  | Name x xp=>exact nomatch (h:false=true)
  | _=>rfl
 | _=>rfl
section
variable{prog:Program}{w:World}{YC:Heap}{K:Frag}{T:Tab}{A:Around}{own:ak}{s:Shared}{H:MH}{E':Value→Shared→Prop}
theorem oJ{c:Nat}{n:String}(h:gO T c n=true):∃k,T.cls c=some k∧n∈k.fields:=by
 unfold gO at h
 rw [Option.any_eq_true] at h
 obtain ⟨k,e,h⟩:=h
 exact ⟨k,e,by simpa using h⟩
theorem DQ(G:Gd prog w YC K T){a:V}{va:Value}{n:String}{x:V}{Q:Q1}{Q':Value→Shared→Prop}{expr:Bool}(hf:(sH H a).bind (get · n)=some x)(hq:Q x H)(O:Ok prog w T YC own H s.heap)(ra:VR own s.heap a va)
  (kq:KQ prog w YC T VR own H s Q Q'):wpAny (model prog w) A (getAttr va (nm n) expr) Q' E' s:=by
 refine cg hf fun fs h1 hx=>cg h1 fun r hr h2=>cg h2 fun o hH h3=> ?_
 obtain rfl:=dD hr
 clear hf h1 h2 hr
 refine VR.k_ref ra ?_
 have X:K.In s.heap:=G.X.keeps O.base
 induction o using Mine.O.casesOn with
 | inst c fs'=>
  cases h3
  refine aU.k_inst (O.rep _ _ hH).2 fun d m o e1 e2 e3 e4 e5 e6 e7 e8 e9 e10=> ?_
  obtain ⟨k,hk,hm⟩:=oJ (e9 n x hx)
  obtain ⟨v,q1,q2⟩:=e8.has n x hx
  exact xg X (G.cls _ _ hk) e1 e2 e3 (fun z q=>by rw [e4] at q;injection q) e7 hm q1 q2.handed (kq.now O hq q2 _)
 | exc c fs'=>
  cases h3
  refine aU.k_exc (O.rep _ _ hH).2 (fun d m o vs e1 e2 e3 e4 e5 e6 e7 e8 e9 e10 e11 e12 e13=> ?_) fun zz zz e=>by subst e;exact aG hx
  obtain ⟨k,hk,hm⟩:=oJ (e9 n x hx)
  obtain ⟨v,q1,q2⟩:=e8.has n x hx
  exact xg X (G.cls _ _ hk) e1 e2 e3 (fun z q=>by rw [e4] at q;injection q) e7 hm q1 q2.handed (kq.now O hq q2 _)
 | _=>exact aG h3
theorem FM.within{h:Heap}{c:Nat}{fs:List (String×V)}{m:Str→Option Value}{k:Cls}(f:FM own h fs m)(hk:T.cls c=some k)(ok:∀n x,get fs n=some x→gO T c n=true):Within m (k.fields.map nm):=fun y hy=>by
 obtain ⟨n,x,rfl,e⟩:=f.only y hy
 obtain ⟨k',hk',hm⟩:=oJ (ok n x e)
 rw [hk] at hk';obtain rfl:=Option.some.inj hk'
 exact List.mem_map.mpr ⟨n,hm,rfl⟩
theorem DR(G:Gd prog w YC K T){a v:V}{va val:Value}{n:String}{H':MH}{Q':Unit→Shared→Prop}(hs:setField T H a n v=some H')(O:Ok prog w T YC own H s.heap)(ra:VR own s.heap a va)(rv:VR own s.heap v val)
  (kq:∀YD h' tk,Ok prog w T YC YD H' h'→aH aV own H s.heap YD H' h'→Q' () (aF s h' tk)):wpAny (model prog w) A (setAttr va (nm n) val) Q' E' s:=by
 refine cg hs fun r hr h1=>cg h1 fun ob hH h2=> ?_
 obtain rfl:=dD hr
 clear hs h1 hr
 refine VR.k_ref ra ?_
 have X:K.In s.heap:=G.X.keeps O.base
 induction ob using Mine.O.casesOn with
 | inst c fs=>
  obtain ⟨hok,h3⟩:=fV h2
  obtain rfl:=Option.some.inj h3
  obtain ⟨k,hk,hm⟩:=oJ hok
  have C:=G.cls _ _ hk
  obtain ⟨hown,R⟩:=O.rep _ _ hH
  refine aU.k_inst R fun d m o e1 e2 e3 e4 e5 e6 e7 e8 e9 e10=> ?_
  refine Dk X C e1 e2 e3 (fun z q=>by rw [e4] at q;injection q) e7 hm (e8.within hk e9) (by rw [List.length_map];exact C.few) fun h' n1 n2=> ?_
  obtain ⟨od,_,_,eod,_⟩:=id e7
  obtain ⟨O',X'⟩:=O.upd (F:=aV) (ob:= .inst c (put fs n v)) e5 eod n2 (by obtain ⟨od',_,_,z,_⟩:=n1;exact ⟨od',z⟩) hown (fun tk=> .inst ((n2.2 _ (Ne.symm e6)).trans e1) e2 e3 e4 e5 e6 n1 ((e8.keep tk).put (rv.keep tk)) (fun n' x' q=>by
   rw [cD] at q
   split at q
   ·rename_i z;subst z;exact hok
   ·exact e9 _ _ q) e10) (fun c' fs' q=>by rw [hH] at q;cases q) fun ⟨c',fs',q⟩=>by rw [hH] at q;cases q
  exact kq _ _ _ O' X'
 | exc c fs=>
  obtain ⟨hok,h3⟩:=fV h2
  obtain rfl:=Option.some.inj h3
  obtain ⟨k,hk,hm⟩:=oJ hok
  have C:=G.cls _ _ hk
  obtain ⟨hown,R⟩:=O.rep _ _ hH
  refine aU.k_exc R (fun d m o vs e1 e2 e3 e4 e5 e6 e7 e8 e9 e10 e11 e12 e13=> ?_) fun o vs e0 e1 e2 e3 e4 e10 e11 e12 e13=> ?_
  ·refine Dk X C e1 e2 e3 (fun z q=>by rw [e4] at q;injection q) e7 hm (e8.within hk e9) (by rw [List.length_map];exact C.few) fun h' n1 n2=> ?_
   obtain ⟨od,_,_,eod,edd,_⟩:=id e7
   obtain ⟨O',X'⟩:=O.upd (F:=aV) (ob:= .exc c (put fs n v)) e5 eod n2 (by obtain ⟨od',_,_,z,_⟩:=n1;exact ⟨od',z⟩) hown (fun tk=> .exc ((n2.2 _ (Ne.symm e6)).trans e1) e2 e3 e4 e5 e6 n1 ((e8.keep tk).put (rv.keep tk)) (fun n' x' q=>by
    rw [cD] at q
    split at q
    ·rename_i z;subst z;exact hok
    ·exact e9 _ _ q) e10 e11 e12 (e13.imp id fun ⟨t,ot,ts,q1,q2,q3,q4,q5,q6⟩=>⟨t,ot,ts,q1,q2,q3,(n2.2 _ (fun z=>by subst z;rw [eod] at q4;obtain rfl:=Option.some.inj q4;rw [edd] at q5;injection q5)).trans q4,q5,q6⟩)) (fun c' fs' q=>⟨_,_,rfl⟩) fun _ ⟨o',vs',t,z1,z2,z3⟩=>⟨o',vs',t,(n2.2 _ (Ne.symm e6)).trans z1,z2,z3⟩
   exact kq _ _ _ O' X'
  ·subst e0
   refine M8 X C e1 e2 e3 e4 hm fun hB h' b1 b2 b3 n1 n2=> ?_
   obtain ⟨O1,X1⟩:=O.push {cls:= .type "dict",data:= .dict #[]} (some r)
   have hD:own.set s.heap.objs.size (some r) s.heap.objs.size=some r:=qw
   have hA:own.set s.heap.objs.size (some r) r=some r:=by rw [jy e1];exact hown
   have e1':(s.heap.push {cls:= .type "dict",data:= .dict #[]}).get? r=some o:=Heap.get?_push_of_some _ e1
   have hne:s.heap.objs.size≠r:=Nat.ne_of_gt (Heap.lt_size e1)
   have tbk:∀{t:Addr} {ot:Obj},s.heap.get? t=some ot→own t=some r→t≠r→hB.get? t=some ot∧own.set s.heap.objs.size (some r) t=some r:=fun q4 q2 q3=>⟨(b2.2 _ q3).trans (Heap.get?_push_of_some _ q4),by rw [jy q4];exact q2⟩
   obtain ⟨O2,X2⟩:=O1.upd (F:=aV) (b:=r) (u:=r) (ou:=o) (ob:= .exc c []) (h':=hB) hA e1' b2 ⟨_,b1⟩ hA (fun tk=>
    .exc b1 e2 rfl e4 hD hne b3 FM.nil (fun n' x' q=>nomatch q) e10 e11 e12 (e13.imp id fun ⟨t,ot,ts,q1,q2,q3,q4,q5,q6⟩=>⟨t,ot,ts,q1,(tbk q4 q2 q3).2,q3,(tbk q4 q2 q3).1,q5,q6⟩)) (fun zz zz zz=>⟨_,_,rfl⟩) fun _ ⟨o',vs',t,z1,z2,z3⟩=>by
     rw [e1'] at z1;obtain rfl:=Option.some.inj z1
     exact ⟨_,vs',t,b1,z2,z3⟩
   obtain ⟨od,_,_,eod,edd,_⟩:=id b3
   obtain ⟨O3,X3⟩:=O2.upd (F:=aV) (b:=r) (u:=s.heap.objs.size) (ou:=od) (ob:= .exc c (put [] n v)) (h':=h') hD eod n2 (by obtain ⟨od',_,_,z,_⟩:=n1;exact ⟨od',z⟩) hA (fun tk=>
    .exc ((n2.2 _ (Ne.symm hne)).trans b1) e2 rfl e4 hD hne n1 (FM.nil.put (((rv.keep X1.tup).keep X2.tup).keep tk)) (fun n' x' q=>by
     rw [cD] at q
     split at q
     ·rename_i z;subst z;exact hok
     ·exact aG q) e10 e11 e12 (e13.imp id fun ⟨t,ot,ts,q1,q2,q3,q4,q5,q6⟩=>⟨t,ot,ts,q1,(tbk q4 q2 q3).2,q3,(n2.2 _ (fun z=>by rw [z] at q4;exact Nat.lt_irrefl _ (Heap.lt_size q4))).trans (tbk q4 q2 q3).1,q5,q6⟩)) (fun zz zz zz=>⟨_,_,rfl⟩) fun _ ⟨o',vs',t,z1,z2,z3⟩=>⟨o',vs',t,(n2.2 _ (Ne.symm hne)).trans z1,z2,z3⟩
   have hupd:(H.upd r (.exc c [])).upd r (.exc c (put [] n v))=H.upd r (.exc c (put [] n v)):=by
    funext b;unfold MH.upd;split<;>rfl
   rw [hupd] at O3 X3
   exact kq _ _ _ O3 ((X1.trans X2).trans X3)
 | _=>exact aG h2
theorem Pr(G:Gd prog w YC K T){sc:SC}{e:Expr}{n:String}{p:Pos}{x:X}(ha:SE prog w YC T sc e x)(hn:pW e=true):SE prog w YC T sc (.Attribute e (nm n) p) (.attr x n):=by
 intro env C d hd fr loc H Q E he hc hw A own s Q' E' I F kq ke
 refine Attribute_any_ (ha env C d hd fr loc H _ E he hc hw A own s _ E' I F (fun v H1 YF h1 tk1 va hw1 O1 X1 r1=> ?_) ke) (by rw [arm_eval_Attribute,DP hn])
 exact aa.el hw1 fun x' hx h=>DQ G hx h O1 r1 (kq.step X1)
theorem Pu{ks:List (Option Expr)}{vs:List V}(t:mJ ks vs):ks.all (·.isSome)=true∧ks.length=vs.length:=by
 induction t with
 | nil=>exact ⟨rfl,rfl⟩
 | cons _ ih=>exact ⟨by simpa using ih.1,by simp [ih.2]⟩
theorem Px{gl:String→Option Value}{sc:SC}{es:List Expr}{vs:List V}(t:mK gl sc es vs):es.length=vs.length:=by
 induction t with
 | nil=>rfl
 | cons _ _ _ _ ih=>simp [ih]
theorem Py(G:Gd prog w YC K T){sc:SC}{env:Env}{pos:Pos}(he:cj env sc){ks:List (Option Expr)}{kv:List V}(tk:mJ ks kv):∀{es:List Expr} {vs:List V} {s:Shared} {Q':List (Value×Value)→Shared→Prop},mK T.glob sc es vs→kv.length=vs.length→
  (∀a o,YC.get? a=some o→s.heap.get? a=some o)→
  (∀(ps:List (Str×Value)) (qs:List (Value×Value)) tk,Carries (strKind prog w) qs ps→kv=ps.map (fun p=>V.str p.1.cps.toList)→(∀own h,aB own h vs (ps.map (·.2)))→Q' qs (aF s s.heap tk))→wpAny (model prog w) A (evalPairs (pairTrees ks es env pos)) Q' E' s:=by
 induction tk with
 | nil=>
  intro es vs s Q' t hl hb h
  cases t with
  | nil=>exact pairTrees_nil_walk (h [] [] s.toks trivial rfl fun zz zz=> .nil)
  | cons=>cases hl
 | @cons st k p ks kv _ ih=>
  intro es vs s Q' t hl hb h
  cases t with
  | nil=>cases hl
  | @cons x p' v es vs q1 q2 q3 t=>
   refine pairTrees_cons_walk (wpAny_Constant_str ?_)
   rw [←he.names] at q1
   obtain ⟨mg,mb,g1,g2,g3⟩:=G.glob
   obtain ⟨hi,g3⟩:=g3 x v q3
   have fin:wpAny (model prog w) A (evalPairs (pairTrees ks es env pos)) (fun r s₃=>Q' ((.str st s.toks,v)::r) s₃) E' (aF s s.heap (s.toks+1)):=by
    refine ih t (by simpa using hl) hb fun ps qs tk c e r=> ?_
    exact h ((st,v)::ps) ((.str st s.toks,v)::qs) tk ⟨strKind_is prog w st _,rfl,c⟩ (by rw [List.map_cons,e]) fun own h=> .cons (.con hi) (r own h)
   refine Name_function_global he.kind q1 ?_ q2
   rcases g3 with q | ⟨z1,z2⟩
   ·exact loadGlobal_global (by rw [he.globals];exact g1.keeps hb) q fin
   ·exact loadGlobal_builtin (by rw [he.globals];exact g1.keeps hb) z1 (by rw [he.builtins];exact g2.keeps hb) z2 fin
theorem Ok.newD(G:Gd prog w YC K T){h:Heap}(O:Ok prog w T YC own H h){es:List (V×V)}{kvs:List (Str×Value)}{h':Heap}(hs:Heap.SameBut h.objs.size (h.push {cls:= .type "dict",data:= .dict #[]}) h')
  (hd:h'.DictOf (strKind prog w) h.objs.size kvs) (e1:es.map (·.1)=kvs.map (fun p=>V.str p.1.cps.toList)) (e2:∀own h,aB own h (es.map (·.2)) (kvs.map (·.2))):
  Ok prog w T YC (own.set h.objs.size (some h.objs.size)) (H.upd h.objs.size (.dict es)) h'∧aH aV own H h (own.set h.objs.size (some h.objs.size)) (H.upd h.objs.size (.dict es)) h':=by
 have keep:∀a o,h.get? a=some o→h'.get? a=some o:=fun a o e=>(hs.2 a (Nat.ne_of_lt (Heap.lt_size e))).trans (Heap.get?_push_of_some _ e)
 have own_k:∀a o,h.get? a=some o→own.set h.objs.size (some h.objs.size) a=own a:=fun zz zz e=>jy e
 have O':=O.grow keep own_k
 have X':aH aV own H h (own.set h.objs.size (some h.objs.size)) H h':= .of_keeps keep own_k
 refine ⟨O'.add qw (.dictS hd ?_ e1 (e2 _ _)),⟨X'.same,X'.keep,X'.tups,X'.there,qm O.fresh,X'.tb⟩⟩
 obtain ⟨z,oz,z1,z2⟩:=G.big
 exact beq_eq_false_iff_ne.mpr (Nat.ne_of_gt (Nat.lt_trans z1 (Heap.lt_size (O.base _ _ z2))))
theorem Pz:∀{ks:List V} {kvs:List (Str×Value)} {ts:List Txt},ks=kvs.map (fun p=>V.str p.1.cps.toList)→bU ks=some ts→ts.Nodup→(kvs.map (·.1)).Nodup:=by
 intro ks kvs ts e1 e2 hn
 have:ts=kvs.map (fun p=>p.1.cps.toList):=by
  subst e1
  induction kvs generalizing ts with
  | nil=>cases e2;rfl
  | cons p r ih=>
   simp only [List.map_cons,bU,Option.map_eq_some_iff] at e2
   obtain ⟨ts',q,rfl⟩:=e2
   rw [List.map_cons,ih (List.nodup_cons.mp hn).2 q]
 rw [this,show (fun p:Str×Value=>p.1.cps.toList)=(fun x:Str=>x.cps.toList)∘Prod.fst from rfl,←List.map_map] at hn
 exact List.Pairwise.of_map _ (fun a b q z=>q (by rw [z])) hn
theorem PB(G:Gd prog w YC K T){sc:SC}{ks:List (Option Expr)}{es:List Expr}{p:Pos}{kv vs:List V}(tk:mJ ks kv)(tv:mK T.glob sc es vs):SE prog w YC T sc (.Dict ks es p) (.dict kv vs):=by
 intro env C d hd fr loc H Q E he hc hw A own s Q' E' I F kq ke
 obtain ⟨ok,hq⟩:=hw
 unfold vW at ok
 rw [Bool.and_eq_true,Bool.and_eq_true] at ok
 obtain ⟨⟨o1,o2⟩,o3⟩:=ok
 have o1:=eq_of_beq o1
 have o2:=of_decide_eq_true o2
 obtain ⟨k1,k2⟩:=Pu tk
 have k3:=Px tv
 split at o3
 ·rename_i ts hts
  have o3:=of_decide_eq_true o3
  by_cases h0:ks= []
  ·subst h0
   have:es= []:=List.length_eq_zero_iff.mp (by rw [k3,←o1,←k2];rfl)
   subst this
   cases tk;cases tv
   obtain ⟨O',X'⟩:=I.ok.newD G (es:= []) (kvs:= []) (h':=s.heap.push {cls:= .type "dict",data:= .dict #[]}) (.refl _ _) ⟨_,#[],0,Heap.get?_push_size _ rfl,⟨rfl,rfl,rfl⟩,rfl,fun zz he=>by simp at he, .nil,List.nodup_nil⟩ rfl fun zz zz=> .nil
   exact wpAny_Dict_empty (kq _ _ _ _ s.toks _ (hq _ I.ok.fresh) O' X' (.ref _))
  ·refine wpAny_Dict_walk (knd:=strKind prog w) k1 (by rw [k2,k3,o1]) h0 (by rw [k2];exact o2) ?_
   refine Py G he tk tv o1 (fun a o e=>Heap.get?_push_of_some _ (I.ok.base a o e)) fun ps qs tk' c e1 e2=> ?_
   refine ⟨ps,c,⟨_,#[],0,Heap.get?_push_size _ rfl,⟨rfl,rfl,rfl⟩,rfl,fun zz he=>by simp at he, .nil,List.nodup_nil⟩,fun h' d' hs'=> ?_⟩
   rw [merged_nil_of_nodup _ (Pz e1 hts o3)] at d'
   have lz:kv.length≤vs.length:=Nat.le_of_eq o1
   have lz':vs.length≤kv.length:=Nat.le_of_eq o1.symm
   obtain ⟨O',X'⟩:=I.ok.newD G (es:=kv.zip vs) (kvs:=ps) hs' d' (by rw [List.map_fst_zip lz];exact e1) (fun own h=>by rw [List.map_snd_zip lz'];exact e2 own h)
   exact kq _ _ _ _ _ _ (hq _ I.ok.fresh) O' X' (.ref _)
 ·exact absurd o3 Bool.false_ne_true
end
set_option maxHeartbeats 2000000
noncomputable def ir:BM→String
 | .append=>"list.append"
 | .lpop=>"list.pop"
 | .extend=>"list.extend"
 | .index=>"list.index"
 | .dget=>"dict.get"
 | .dpop=>"dict.pop"
 | .join=>"str.join"
 | .excInit=>"Exception.__init__"
noncomputable def jY(m:BM)(v:Value):List Value:=if m= .excInit then [] else [v]
theorem PJ(sep:Txt)(ts:List Txt):Txt.join (aJ sep) (ts.map aJ)=aJ (jO sep ts):=by
 show Builtin.Str.glued _ _=_
 unfold Builtin.Str.glued
 have key:∀(r:List Txt) (acc:Txt),(r.map aJ).foldl (fun (a:Array Nat) p=>a++(aJ sep).cps++p.cps) acc.toArray=(acc++(r.map fun x=>sep++x).flatten).toArray:=by
  intro r
  induction r with
  | nil=>intro acc;simp
  | cons x r ih=>
   intro acc
   rw [List.map_cons,List.foldl_cons]
   have:acc.toArray++(aJ sep).cps++(aJ x).cps=(acc++sep++x).toArray:=by unfold aJ;simp
   rw [this,ih]
   simp
 have j:∀(x:Txt) (r:List Txt),jO sep (x::r)=x++(r.map fun x=>sep++x).flatten:=by
  intro x r
  induction r generalizing x with
  | nil=>simp [jO]
  | cons y r ih=>rw [jO];rw [ih];simp;exact fun e=>nomatch e
 induction ts using List.casesOn with
 | nil=>rfl
 | cons x r=>
  rw [j]
  show (⟨(r.map aJ).foldl _ (aJ x).cps⟩:Str)=_
  rw [show (aJ x).cps=x.toArray from rfl,key]
  rfl
section
variable{prog:Program}{w:World}{YC:Heap}{K:Frag}{T:Tab}{A:Around}{own:ak}{s:Shared}{H:MH}{E':Value→Shared→Prop}
theorem PK{a:Addr}{es:List (V×V)}{h:Heap}(R:aU prog w T own h a (.dict es)):∃o,h.get? a=some o∧o.dict=none∧o.cls= .type "dict":=by
 cases R with
 | dictS e1=>obtain ⟨o,_,_,z1,z2,_⟩:=e1;exact ⟨o,z1,z2.2.1,z2.1⟩
 | dictT e1 e2=>exact ⟨_,e1,e2.2.1,e2.1⟩
theorem PL{v:V}{va:Value}{T':String}{n:String}{m:BM}{pl:Sem Bool}{Q:Value×List Value→Shared→Prop}(hT:s.TypeIs va T')(pa:PlainAttrs T')(slot:Slot T' (nm n) (ir m))(hty:typeOf (.builtin (ir m))=pure (.type "method_descriptor"))
  (hd:∀a,va= .ref a→∃o,s.heap.get? a=some o∧o.dict=none) (hm:m≠ .excInit) (h:Q (.builtin (ir m),jY m va) s):wpAny (model prog w) A (getMethod va (nm n) pl) Q E' s:=
 getMethod_builtin hT pa slot hty hd (by unfold jY at h;rw [if_neg hm] at h;exact h)
theorem PN(K:Frag):findCls K (.type "Exception") (.type "type") (nm "__init__")=some (.val (.builtin "Exception.__init__")):=by kernel_rfl
theorem PP:typeOf (.type "Exception")=pure (.type "type"):=by kernel_rfl
theorem PQ{T name:String}{v:Value}{pl:Sem Bool}{Q:Value×List Value→Shared→Prop}(X:K.In s.heap)(ht:typeOf (.type T)=pure (.type "type"))(hs:Manifest.isStub T=false)
  (e:findCls K (.type T) (.type "type") (nm name)=some (.val v)) (hh:handedIn v=true) (h:Q (v,[]) (aF s s.heap (s.toks+1))):wpAny (model prog w) A (getMethod (.type T) (nm name) pl) Q E' s:=by
 have hstub:opaqueClassAbove (.type T)=pure none:=by unfold opaqueClassAbove;dsimp only;rw [hs];rfl
 have L0:Looks (model prog w) s.heap (typeOf (.type T)) (.type "type"):=Looks.of_pure ht
 have hg:findIn K (.type "type") "__getattribute__"=some (some (.builtin "type.__getattribute__")):=type_tga
 unfold getMethod specialOf
 refine wpAny_bind (wpAny_bind (L0.here ((looks_findIn X hg).here ?_)))
 dsimp only
 rw [if_pos canon_tga]
 refine wpAny_bind (wpAny_mono (Q:=fun v=>Q (v,[])) (E:=E') ?_ (fun zz zz z=>wpAny_pure z) fun zz zz z=>z)
 have LO:Looks (model prog w) s.heap (opaqueClassAbove (.type T)) none:=Looks.of_pure hstub
 refine cls_open X LO L0 hg (looks_hook X (r:=none) (by rfl)) (by show subIn K _ _=_;rfl) e
  (wpAny_pure (by show wpAny _ _ (handedOut v) _ _ _;rw [handedOut_of hh];exact wpAny_pure h))
section
variable{v:V}{va:Value}{n:String}{c:Cal}{pl:Sem Bool}{Q:Value×List Value→Shared→Prop}
theorem PT(G:Gd prog w YC K T){a c':Nat}{fs:Loc}(hc:zO T (.ref a) n c' (get fs n)=some c)(hH:H a=some (.inst c' fs))(O:Ok prog w T YC own H s.heap)
  (hf:∀f first fv fvs tk,c= .fn f first→VR own s.heap f fv→aB own s.heap first fvs→Q (fv,fvs) (aF s s.heap tk)):wpAny (model prog w) A (getMethod (.ref a) (nm n) pl) Q E' s:=by
 have X:K.In s.heap:=G.X.keeps O.base
 refine aU.k_inst (O.rep _ _ hH).2 fun d m o e1 e2 e3 e4 e5 e6 e7 e8 e9 e10=> ?_
 obtain ⟨k,hk,hx⟩:=(Option.any_eq_true (p:=fun k:Cls=> !k.isExc) (x:=T.cls c')).mp e10
 have C:=G.cls _ _ hk
 have hx:k.isExc=false:=by simpa using hx
 obtain ⟨od,q5,q6⟩:=tO e7
 have I:=tQ e1 e2 e3 (fun z q=>by rw [e4] at q;injection q) q5
 have ga:=C.ga
 rw [hx,if_neg Bool.false_ne_true] at ga
 induction hg:get fs n using Option.casesOn with
 | some f=>
  rw [hg] at hc
  cases hc
  obtain ⟨k',hk',hm⟩:=oJ (e9 n f hg)
  rw [hk] at hk';obtain rfl:=Option.some.inj hk'
  obtain ⟨val,z1,z2⟩:=e8.has n f hg
  refine method_usual X I ga C.gt (C.fld n hm) rfl ?_
  exact xg X C e1 e2 e3 (fun z q=>by rw [e4] at q;injection q) e7 hm z1 z2.handed (hf f [] val [] _ rfl z2 .nil)
 | none=>
  rw [hg] at hc
  refine jV hc fun f hf' e=> ?_
  unfold vJ at hf'
  rw [hk] at hf'
  obtain ⟨m1,m2⟩:=C.meth n f hf'
  refine method_fn X I ga C.gt m1 m2 ?_ (hf _ _ _ _ s.toks e.symm (.con rfl) (.cons (.ref _) .nil))
  show (lookIn (nm n) od).map (·.isSome)=some false
  rw [q6]
  induction hz:m (nm n) using Option.casesOn with
  | none=>rfl
  | some v=>
   obtain ⟨n',x,z1,z2⟩:=e8.only (nm n) (by rw [hz];exact fun z=>nomatch z)
   rw [lu z1,z2] at hg
   exact jN hg
theorem mO{T':String}{m:BM}(hT:s.TypeIs va T')(pa:PlainAttrs T')(slot:Slot T' (nm n) (ir m))(hty:typeOf (.builtin (ir m))=pure (.type "method_descriptor"))
  (hd:∀a,va= .ref a→∃o,s.heap.get? a=some o∧o.dict=none) (hm:m≠ .excInit) (e:Cal.bm m v=c)
  (hb:∀m tk,c= .bm m v→Q (.builtin (ir m),jY m va) (aF s s.heap tk)):wpAny (model prog w) A (getMethod va (nm n) pl) Q E' s:=
 PL (v:=v) hT pa slot hty hd hm (hb m s.toks e.symm)
theorem PX{a:Nat}{xs:List V}{m:BM}(hm:vL n=some m)(e:Cal.bm m (.ref a)=c)(hH:H a=some (.list xs))(O:Ok prog w T YC own H s.heap)
  (hb:∀m tk,c= .bm m (.ref a)→Q (.builtin (ir m),jY m (.ref a)) (aF s s.heap tk)):wpAny (model prog w) A (getMethod (.ref a) (nm n) pl) Q E' s:=by
 refine aU.k_list (O.rep _ _ hH).2 fun vs k l1 r1=> ?_
 have hT:s.TypeIs (.ref a) "list":=⟨_,l1,rfl⟩
 have hd:∀b,Value.ref a= .ref b→∃o,s.heap.get? b=some o∧o.dict=none:=fun b e=>by (injection e with zh;subst zh);exact ⟨_,l1,rfl⟩
 unfold vL at hm
 induction h1:n=="append" using Bool.casesOn with
 | true=>rw [h1] at hm;obtain rfl:=eq_of_beq h1;obtain rfl:=Option.some.inj hm;exact mO (v:= .ref a) (m:= .append) hT PySem.F.plainAttrs_list PySem.F.slot_list_append PySem.F.type_list_append hd (fun z=>nomatch z) e hb
 | false=>
 rw [h1] at hm
 induction h2:n=="pop" using Bool.casesOn with
 | true=>rw [h2] at hm;obtain rfl:=eq_of_beq h2;obtain rfl:=Option.some.inj hm;exact mO (v:= .ref a) (m:= .lpop) hT PySem.F.plainAttrs_list PySem.F.slot_list_pop PySem.F.type_list_pop hd (fun z=>nomatch z) e hb
 | false=>
 rw [h2] at hm
 induction h3:n=="extend" using Bool.casesOn with
 | true=>rw [h3] at hm;obtain rfl:=eq_of_beq h3;obtain rfl:=Option.some.inj hm;exact mO (v:= .ref a) (m:= .extend) hT PySem.F.plainAttrs_list PySem.F.slot_list_extend PySem.F.type_list_extend hd (fun z=>nomatch z) e hb
 | false=>
 rw [h3] at hm
 obtain ⟨h4,hm⟩:=fV hm
 obtain rfl:=eq_of_beq h4;cases hm;exact mO (v:= .ref a) (m:= .index) hT PySem.F.plainAttrs_list PySem.F.slot_list_index PySem.F.type_list_index hd (fun z=>nomatch z) e hb
theorem P0{a:Nat}{es:List (V×V)}{m:BM}(hm:vM n=some m)(e:Cal.bm m (.ref a)=c)(hH:H a=some (.dict es))(O:Ok prog w T YC own H s.heap)
  (hb:∀m tk,c= .bm m (.ref a)→Q (.builtin (ir m),jY m (.ref a)) (aF s s.heap tk)):wpAny (model prog w) A (getMethod (.ref a) (nm n) pl) Q E' s:=by
 obtain ⟨o,z1,z2,z3⟩:=PK (O.rep _ _ hH).2
 have hT:s.TypeIs (.ref a) "dict":=⟨_,z1,z3⟩
 have hd:∀b,Value.ref a= .ref b→∃o,s.heap.get? b=some o∧o.dict=none:=fun b e=>by (injection e with zh;subst zh);exact ⟨_,z1,z2⟩
 unfold vM at hm
 induction h1:n=="get" using Bool.casesOn with
 | true=>rw [h1] at hm;obtain rfl:=eq_of_beq h1;obtain rfl:=Option.some.inj hm;exact mO (v:= .ref a) (m:= .dget) hT PySem.F.plainAttrs_dict PySem.F.slot_dict_get PySem.F.type_dict_get hd (fun z=>nomatch z) e hb
 | false=>
 rw [h1] at hm
 obtain ⟨h4,hm⟩:=fV hm
 obtain rfl:=eq_of_beq h4;cases hm;exact mO (v:= .ref a) (m:= .dpop) hT PySem.F.plainAttrs_dict PySem.F.slot_dict_pop PySem.F.type_dict_pop hd (fun z=>nomatch z) e hb
theorem Qa(G:Gd prog w YC K T)(hc:jl T H v n=some c)(O:Ok prog w T YC own H s.heap)(ra:VR own s.heap v va)
  (hf:∀f first fv fvs tk,c= .fn f first→VR own s.heap f fv→aB own s.heap first fvs→Q (fv,fvs) (aF s s.heap tk))
  (hb:∀m tk,c= .bm m v→Q (.builtin (ir m),jY m va) (aF s s.heap tk)):wpAny (model prog w) A (getMethod va (nm n) pl) Q E' s:=by
 induction v using V.casesOn with
 | ref a=>
  obtain rfl:=ra.e_ref
  refine cg hc fun ob hH h1=> ?_
  induction ob using Mine.O.casesOn with
  | inst c' fs=>exact PT G h1 hH O hf
  | list xs=>exact jV h1 fun m hm e=>PX hm e hH O hb
  | dict es=>exact jV h1 fun m hm e=>P0 hm e hH O hb
  | exc=>exact aG h1
 | str x=>
  obtain ⟨q,h1⟩:=fV hc
  obtain rfl:=eq_of_beq q
  exact VR.k_str ra (motive:=fun va=>(∀m tk,c= .bm m (.str x)→Q (.builtin (ir m),jY m va) (aF s s.heap tk))→wpAny (model prog w) A (getMethod va (nm "join") pl) Q E' s)
   (fun t hb=>mO (v:= .str x) (m:= .join) (typeIs_str s _ _) PySem.F.plainAttrs_str PySem.F.slot_str_join PySem.F.type_str_join (fun zz e=>nomatch e) (fun z=>nomatch z) (Option.some.inj h1) hb) hb
 | con u=>
  refine VR.k_con ra (motive:=fun va=>(∀m tk,c= .bm m (.con u)→Q (.builtin (ir m),jY m va) (aF s s.heap tk))→wpAny (model prog w) A (getMethod va (nm n) pl) Q E' s) (fun hcon hb=> ?_) hb
  have X:K.In s.heap:=G.X.keeps O.base
  induction u using PySem.Value.casesOn with
  | ref a=>
   refine jV hc fun f hf' e=> ?_
   refine cg hf' fun k hk h2=> ?_
   have C:=G.cls _ _ hk
   obtain ⟨mc,m1,m2⟩:=C.cm
   exact method_cls X C.ct (cls_value X m1 (m2 n f h2) rfl (hf _ _ _ _ _ e.symm (.con rfl) .nil))
  | type t=>
   obtain ⟨q1,h1⟩:=fV hc
   obtain ⟨q2,h2⟩:=fV h1
   obtain rfl:=eq_of_beq q1;obtain rfl:=eq_of_beq q2
   exact PQ X (PP) (by decide+kernel) (PN K) rfl (hb .excInit _ (Option.some.inj h2).symm)
  | _=>exact aG hc
 | _=>exact aG hc
end
end
section
variable{prog:Program}{w:World}{YC:Heap}{K:Frag}{T:Tab}{A:Around}{own:ak}{s:Shared}{H:MH}{Q':Value→Shared→Prop}{E':Value→Shared→Prop}
theorem Ok.updL(O:Ok prog w T YC own H s.heap){a:Nat}{xs:List V}(hH:H a=some (.list xs)){ys:List V}{vs:Array Value}{n:Nat}{h':Heap}(hl:IsL h' a vs n)(hs:Heap.SameBut a s.heap h')(hv:aB own s.heap ys vs.toList):
  Ok prog w T YC own (H.upd a (.list ys)) h'∧aH aV own H s.heap own (H.upd a (.list ys)) h':=by
 obtain ⟨ho,R⟩:=O.rep _ _ hH
 obtain ⟨o,e⟩:=R.there
 exact O.upd (u:=a) (b:=a) (ou:=o) ho e hs ⟨_,hl⟩ ho (fun tk=> .list hl (hv.keep tk)) (fun c fs q=>by rw [hH] at q;cases q) fun ⟨c,fs,q⟩=>by rw [hH] at q;cases q
theorem Ok.updD(O:Ok prog w T YC own H s.heap){a:Nat}{es:List (V×V)}(hH:H a=some (.dict es)){es':List (V×V)}{h':Heap}(hs:Heap.SameBut a s.heap h')(R':dM own s.heap own h'→aU prog w T own h' a (.dict es'))(ht:∃o,h'.get? a=some o):
  Ok prog w T YC own (H.upd a (.dict es')) h'∧aH aV own H s.heap own (H.upd a (.dict es')) h':=by
 obtain ⟨ho,R⟩:=O.rep _ _ hH
 obtain ⟨o,e⟩:=R.there
 exact O.upd (u:=a) (b:=a) (ou:=o) ho e hs ht ho R' (fun c fs q=>by rw [hH] at q;cases q) fun ⟨c,fs,q⟩=>by rw [hH] at q;cases q
theorem Qc(k:Str){vs:List Value}{ys:List Str}(r:StrsAre vs ys):∀(i:Nat) (h:i<vs.length) (h':i<ys.length),isStrOf k vs[i]=(ys[i]==k):=by
 induction r using StrsAre.rec with
 | nil=>exact fun i h zz=>absurd h (Nat.not_lt_zero i)
 | cons y t r ih=>
  intro i h h'
  induction i using Nat.casesOn with
  | zero=>rfl
  | succ i=>exact ih i (Nat.lt_of_succ_lt_succ h) (Nat.lt_of_succ_lt_succ h')
theorem Qd{vs:List Value}{ys:List Str}(r:StrsAre vs ys):vs.length=ys.length:=StrsAre.rec (motive:=fun vs ys zz=>vs.length=ys.length) rfl (fun zz zz zz zz zz=>congrArg Nat.succ) r
set_option tactic.hygienic true in
theorem xu{h:Heap}{k:List V}{a:Addr}(hk:zU (.tup k)=true)(r:VR own h (.tup k) (.ref a)):∃ks:List SB,k=ks.map SB.val∧IsTupleKey (oF prog w) h ks a:=by
 cases r with
 | tup o1 t1 r1=>
  rename_i vs n
  have key:∀(xs:List V) (ys:List Value),aB own h xs ys→xs.all zT=true→∃ks:List SB,xs=ks.map SB.val∧ItemsAre (oF prog w) ks ys:=by
   intro xs
   induction xs with
   | nil=>intro ys r _;cases r;exact ⟨[],rfl, .nil⟩
   | cons x xs ih=>
    intro ys r hall
    refine aB.k_cons r fun zz zz a r=> ?_
    rw [List.all_cons,Bool.and_eq_true] at hall
    obtain ⟨ks,e,i⟩:=ih _ r hall.2
    cases a with
    | bool b=>exact ⟨.b b::ks,by rw [List.map_cons,e];rfl, .cons (by show (b==b)=true;simp) i⟩
    | str st t=>exact ⟨.s (aJ st)::ks,by rw [List.map_cons,e];show _=V.str (aJ st).cps.toList::_;rw [oG], .cons (by show (aJ st==aJ st)=true;simp) i⟩
    | _=>exact absurd hall.1 Bool.false_ne_true
  obtain ⟨ks,e,i⟩:=key k vs.toList r1 hk
  exact ⟨ks,e,_,vs,n,t1,rfl,rfl,i⟩
set_option tactic.hygienic true in
theorem Qe{a b:SB}(e:a.val=b.val):a=b:=by
 induction a using SB.casesOn<;>induction b using SB.casesOn<;>simp only [SB.val] at e
 ·injection e with e
  rename_i x y
  induction x using PySem.Str.casesOn;induction y using PySem.Str.casesOn
  congr 1
  simpa [Array.toList_inj] using e
 ·injection e
 ·injection e
 ·(injection e with zh;subst zh);rfl
theorem DW:∀{a b:List SB},a.map SB.val=b.map SB.val→a=b
 | [],[],_=>rfl
 | [],_::_,e=>by cases e
 | _::_,[],e=>by cases e
 | x::a,y::b,e=>by
  simp only [List.map_cons,List.cons.injEq] at e
  rw [Qe e.1,DW e.2]
theorem Qg(x y:SB):V.sameF x.val y.val=decide (x=y):=by
 cases x with
 | s p=>cases y with
  | s q=>
   show (some q.cps.toList==some p.cps.toList)=_
   by_cases z:p=q
   ·subst z;rw [decide_eq_true rfl];exact beq_self_eq_true _
   ·rw [decide_eq_false fun e=>z (by cases e;rfl)];exact beq_eq_false_iff_ne.mpr fun e=>z (by rw [←jz (x:=p),←Option.some.inj e,jz])
  | b q=>rfl
 | b p=>cases y with
  | s q=>rfl
  | b q=>cases p<;>cases q<;>rfl
theorem Qh(a:List SB):∀b:List SB,dY V.sameF (a.map SB.val) (b.map SB.val)=decide (a=b):=by
 induction a with
 | nil=>intro b;induction b using List.casesOn<;>rfl
 | cons x a ih=>
  intro b
  induction b using List.casesOn with
  | nil=>rfl
  | cons y b=>
   show (V.sameF x.val y.val && dY V.sameF (a.map SB.val) (b.map SB.val))=_
   rw [ih,Qg]
   by_cases e1:x=y
   ·by_cases e2:a=b
    ·rw [decide_eq_true e1,decide_eq_true e2,e1,e2,decide_eq_true rfl];rfl
    ·rw [decide_eq_true e1,decide_eq_false e2,decide_eq_false fun e=>e2 (List.cons.inj e).2];rfl
   ·rw [decide_eq_false e1,decide_eq_false fun e=>e1 (List.cons.inj e).1];rfl
structure KT(own:ak)(h:Heap)(es:List (V×V))(xs:List (List SB×Addr×Value)):Prop where
 keys:es.map (·.1)=xs.map (fun x=>V.tup (x.1.map SB.val))
 kr:aB own h (es.map (·.1)) (xs.map fun x=> .ref x.2.1)
 vr:aB own h (es.map (·.2)) (xs.map (·.2.2))
theorem KT.keep{YD:ak}{h h':Heap}{es:List (V×V)}{xs:List (List SB×Addr×Value)}(x:KT own h es xs)(k:dM own h YD h'):KT YD h' es xs:=⟨x.keys,x.kr.keep k,x.vr.keep k⟩
theorem KT.tail{h:Heap}{e:V×V}{es:List (V×V)}{x:List SB×Addr×Value}{xs:List (List SB×Addr×Value)}(t:KT own h (e::es) (x::xs)):KT own h es xs∧e.1=V.tup (x.1.map SB.val)∧VR own h e.1 (.ref x.2.1)∧VR own h e.2 x.2.2:=by
 obtain ⟨a,b,c⟩:=t
 simp only [List.map_cons,List.cons.injEq] at a
 cases b with
 | cons b1 b2=>
  cases c with
  | cons c1 c2=>exact ⟨⟨a.2,b2,c2⟩,a.1,b1,c1⟩
set_option tactic.hygienic true in
theorem aU.dict_tup{h:Heap}{a:Addr}{es:List (V×V)}(R:aU prog w T own h a (.dict es)){k:List V}(hk:bB es (.tup k)=true):∃xs,h.DictOfH (tupleKind (oF prog w)) a xs∧(a==sysModules)=false∧KT own h es xs:=by
 cases R with
 | dictT e1 e2 e3 e4 e5 e6 e7 e8 e9=>
  rename_i xs o en ep
  refine ⟨xs,⟨o,en,ep,e1,e2,e3,e4,fun x hx=> ?_,e5⟩,e6,e7,e8,e9⟩
  obtain ⟨i,hi,rfl⟩:=List.getElem_of_mem hx
  have hl:es.length=xs.length:=by have:=congrArg List.length e7;simpa using this
  obtain ⟨v,q1,q2⟩:=e8.get (i:=i) (x:= .tup (xs[i].1.map SB.val)) (by rw [e7];simp [hi])
  rw [List.getElem?_map,List.getElem?_eq_getElem hi] at q1
  cases q1
  obtain ⟨ks,z1,z2⟩:=xu (prog:=prog) (w:=w) (k:=xs[i].1.map SB.val) (by
   show (List.all _ _)=true
   rw [List.all_eq_true]
   intro y hy
   obtain ⟨b,_,rfl⟩:=List.mem_map.mp hy
   induction b using SB.casesOn<;>rfl) q2
  rw [DW z1];exact z2
 | dictS e1 e2 e3 e4=>
  rename_i kvs
  induction es using List.casesOn with
  | nil=>
   induction kvs using List.casesOn with
   | cons=>cases e3
   | nil=>
    obtain ⟨o,en,ep,z1,z2,z3,z4,z5,_⟩:=e1
    have:en.toList= []:=by generalize en.toList=l at z5;cases z5;rfl
    exact ⟨[],⟨o,en,ep,z1,z2,z3,this,fun zz hx=>(nomatch hx),List.nodup_nil⟩,e2,rfl, .nil, .nil⟩
  | cons e r=>
   induction kvs using List.casesOn with
   | nil=>cases e3
   | cons x xs=>
    simp only [List.map_cons,List.cons.injEq] at e3
    have hk2:vO e.1 (.tup k)=true:=(Bool.and_eq_true_iff.1 (Bool.and_eq_true_iff.1 hk).2).1
    rw [e3.1] at hk2
    exact nomatch hk2
theorem xx{a b:List SB}:(V.tup (a.map SB.val)).same (.tup (b.map SB.val))=decide (a=b):=by
 exact (Bool.false_or _).trans (Qh a b)
theorem KT.find{h:Heap}:∀{es:List (V×V)} {xs:List (List SB×Addr×Value)},KT own h es xs→∀(k:List SB),match aW es (.tup (k.map SB.val)) with
  | some x=>∃p,atKey xs k=some p∧VR own h x p.2
  | .none=>atKey xs k=none
 | [],[],_,k=>rfl
 | [],_::_,e,_=>nomatch e.keys
 | _::_,[],e,_=>nomatch e.keys
 | (k0,x)::es,(s,p)::xs,t,k=>by
  obtain ⟨t',e1,e2,e3⟩:=t.tail
  dsimp only at e1 e2 e3
  subst e1
  have ih:=KT.find t' k
  unfold aW atKey at ih ⊢
  rw [List.find?_cons,List.find?_cons]
  dsimp only
  rw [xx]
  induction decide (s=k) using Bool.casesOn with
  | true=>exact ⟨p,rfl,e3⟩
  | false=>exact ih
theorem KT.some{h:Heap}{es:List (V×V)}{xs:List (List SB×Addr×Value)}(t:KT own h es xs)(k:List SB):(aW es (.tup (k.map SB.val))).isSome=(atKey xs k).isSome:=by
 have e:=t.find k
 induction q:aW es (.tup (k.map SB.val)) using Option.casesOn with
 | none=>rw [q] at e;rw [show atKey xs k=none from e];rfl
 | some x=>rw [q] at e;obtain ⟨p,e1,_⟩:=e;rw [e1];rfl
theorem KT.put_old{h:Heap}{y:V}{v:Value}(hv:VR own h y v):∀{es:List (V×V)} {xs:List (List SB×Addr×Value)},KT own h es xs→(xs.map (·.1)).Nodup→∀(k:List SB),(atKey xs k).isSome=true→KT own h (bC es (.tup (k.map SB.val)) y) (xs.map (putAt k v))
 | [],[],_,_,k,e=>by exact bz e
 | [],_::_,e,_,_,_=>nomatch e.keys
 | _::_,[],e,_,_,_=>nomatch e.keys
 | (k0,x)::es,(s,p)::xs,t,hn,k,hk=>by
  obtain ⟨t',e1,e2,e3⟩:=t.tail
  dsimp only at e1 e2 e3
  subst e1
  rw [List.map_cons,List.nodup_cons] at hn
  rw [nH]
  dsimp only
  rw [xx]
  by_cases z:s=k
  ·subst z
   rw [decide_eq_true rfl,if_pos rfl,List.map_cons]
   have:xs.map (putAt s v)=xs:=by
    have:∀x∈xs,putAt s v x=x:=fun x hx=>by
     unfold putAt
     rw [if_neg fun q:x.1=s=>hn.1 (List.mem_map.mpr ⟨x,hx,q⟩)]
    rw [List.map_congr_left this,List.map_id']
   rw [this]
   unfold putAt
   rw [if_pos rfl]
   exact ⟨by rw [List.map_cons,List.map_cons,t'.keys], .cons e2 t'.kr, .cons hv t'.vr⟩
  ·rw [decide_eq_false z,if_neg Bool.false_ne_true,List.map_cons]
   have hk':(atKey xs k).isSome=true:=by
    unfold atKey at hk ⊢
    rw [List.find?_cons] at hk
    dsimp only at hk
    rw [decide_eq_false z] at hk
    exact hk
   have ih:=KT.put_old hv t' hn.2 k hk'
   rw [show putAt k v (s,p)=(s,p) from by unfold putAt;rw [if_neg z]]
   exact ⟨by rw [List.map_cons,List.map_cons,ih.keys], .cons e2 ih.kr, .cons e3 ih.vr⟩
theorem KT.put_new{h:Heap}{y:V}{v:Value}(hv:VR own h y v){a:Addr}{k:List SB}(hk:VR own h (.tup (k.map SB.val)) (.ref a)):∀{es:List (V×V)} {xs:List (List SB×Addr×Value)},KT own h es xs→atKey xs k=none→KT own h (bC es (.tup (k.map SB.val)) y) (xs++ [(k,a,v)])
 | [],[],_,e=>⟨rfl, .cons hk .nil, .cons hv .nil⟩
 | [],_::_,e,_=>nomatch e.keys
 | _::_,[],e,_=>nomatch e.keys
 | (k0,x)::es,(s,p)::xs,t,hk'=>by
  obtain ⟨t',e1,e2,e3⟩:=t.tail
  dsimp only at e1 e2 e3
  subst e1
  rw [nH]
  dsimp only
  rw [xx]
  unfold atKey at hk'
  rw [List.find?_cons] at hk'
  dsimp only at hk'
  by_cases z:s=k
  ·rw [decide_eq_true z] at hk';exact jN hk'
  ·rw [decide_eq_false z] at hk'
   rw [decide_eq_false z,if_neg Bool.false_ne_true]
   have ih:=KT.put_new hv hk t' hk'
   exact ⟨by rw [List.cons_append,List.map_cons,List.map_cons,ih.keys], .cons e2 ih.kr, .cons e3 ih.vr⟩
theorem Qi{own:ak}{h:Heap}{xs:List V}{vs:List Value}{ts:List Txt}(e:bU xs=some ts)(r:aB own h xs vs):vs.length=ts.length:=by
 have:=Qd (tU e r)
 simpa using this
theorem Qj{a:Nat}{xs:List V}{x:V}{v:Value}{Q:Q1}(hH:H a=some (.list xs))(hl:xs.length<bh)(hq:Q .none (H.upd a (.list (xs++ [x]))))(O:Ok prog w T YC own H s.heap)(r1:VR own s.heap x v)(kq:KQ prog w YC T VR own H s Q Q'):wpAny (model prog w) A (call (.builtin "list.append") [.ref a,v]) Q' E' s:=by
 refine aU.k_listN (O.rep _ _ hH).2 fun v1 n1 l1 rr e1=> ?_
 refine wpAny_list_append_plain ⟨_,l1⟩ (fun h' ⟨n',p1⟩ p2=> ?_) (by rw [←e1,←gB];omega)
 obtain ⟨O',X'⟩:=O.updL hH (ys:=xs++ [x]) p1 p2 (by rw [Array.toList_push];exact rr.append (.cons r1 .nil))
 exact kq _ _ _ _ s.toks _ hq O' X' .none
theorem Qk{a:Nat}{xs:List V}{x:V}{Q:Q1}(hH:H a=some (.list xs))(hl:xs.length≤bh)(hx:xs.getLast? =some x)(hb:Q x (H.upd a (.list xs.dropLast)))(O:Ok prog w T YC own H s.heap)(kq:KQ prog w YC T VR own H s Q Q'):wpAny (model prog w) A (call (.builtin "list.pop") [.ref a]) Q' E' s:=by
 refine aU.k_listN (O.rep _ _ hH).2 fun v1 n1 l1 rr e1=> ?_
 obtain ⟨y,y1,y2⟩:=rr.getLast hx
 have hpos:0<v1.size:=by
  rw [←e1]
  induction xs using List.casesOn with
  | nil=>exact aG hx
  | cons=>simp
 have hy:v1[v1.size - 1]? =some y:=by
  rw [List.getLast?_eq_getElem?] at y1
  simpa using y1
 have e:v1.eraseIdxIfInBounds (v1.size - 1)=v1.pop:=by
  unfold Array.eraseIdxIfInBounds
  rw [dif_pos (by omega)]
  rw [←Array.toList_inj]
  simp [List.dropLast_eq_take,List.eraseIdx_eq_take_drop_succ]
  omega
 have e2:Obj.mapSeq (fun xs=>xs.eraseIdxIfInBounds (v1.size - 1)) {cls:= .type "list",dict:=none,data:= .seq v1 n1,slots:=#[]}={cls:= .type "list",dict:=none,data:= .seq v1.pop (if v1.pop.size==v1.size then n1 else n1+1),slots:=#[]}:=by
  rw [←e];rfl
 have p1:IsL (s.heap.update a (Obj.mapSeq fun xs=>xs.eraseIdxIfInBounds (v1.size - 1))) a v1.pop (if v1.pop.size==v1.size then n1 else n1+1):=by
  show Heap.get? _ _=_
  rw [Heap.get?_update_self _ l1 (by rw [e2];rfl),e2]
 obtain ⟨O',X'⟩:=O.updL hH (ys:=xs.dropLast) p1 (Heap.SameBut.update ..) (by rw [Array.toList_pop];exact rr.dropLast)
 exact call_meets PySem.F.slot_list_pop ⟨_,l1,rfl⟩ PySem.F.entry_list_pop (PySem.F.args_list_pop_1 _) (MeetsSeq.list_pop_last a v1 n1 y hy (by rw [←e1,←gB];exact hl)) ⟨l1,kq _ _ _ _ s.toks _ hb O' X' (y2.keep X'.tup)⟩
theorem Ql{a b:Nat}{xs ys:List V}{Q:Q1}(hH:H a=some (.list xs))(hB:H b=some (.list ys))(hl:(xs++ys).length≤bh)(hq:Q .none (H.upd a (.list (xs++ys))))(O:Ok prog w T YC own H s.heap)(kq:KQ prog w YC T VR own H s Q Q'):wpAny (model prog w) A (call (.builtin "list.extend") [.ref a, .ref b]) Q' E' s:=by
 refine aU.k_list (O.rep _ _ hH).2 fun v1 n1 l1 rr=> ?_
 refine aU.k_list (O.rep _ _ hB).2 fun v2 n2 l2 rr2=> ?_
 have e1:xs.length=v1.size:=by have:=rr.length;simpa using this
 have e2:ys.length=v2.size:=by have:=rr2.length;simpa using this
 have hsz:v1.size+v2.size≤sizeLine:=by rw [List.length_append] at hl;rw [←gB];omega
 have p1:IsL (s.heap.update a (Obj.mapSeq fun x=>x++v2)) a (v1++v2) (if (v1++v2).size==v1.size then n1 else n1+1):=by
  show Heap.get? _ _=_
  rw [Heap.get?_update_self _ l1 (by rw [mapSeq_app];rfl),mapSeq_app]
 obtain ⟨O',X'⟩:=O.updL hH (ys:=xs++ys) p1 (Heap.SameBut.update ..) (by rw [Array.toList_append];exact rr.append rr2)
 exact call_meets PySem.F.slot_list_extend ⟨_,l1,rfl⟩ PySem.F.entry_list_extend (PySem.F.args_list_extend_2 _ _) (AutoSeq1.list_extend_list_list_0 a v1 n1 b v2 n2 (extend_door hsz) (Nat.le_trans (Nat.le_add_right _ _) hsz)) ⟨l1,l2,kq _ _ _ _ s.toks _ hq O' X' .none⟩
theorem Qm{a:Nat}{xs:List V}{st:Txt}{t:Tok}{ts:List Txt}{Q:Q1}(hH:H a=some (.list xs))(hts:bU xs=some ts)(hm:st∈ts)(hl:ts.length≤bh)(hq:Q (.int (ts.idxOf st:Nat)) H)(O:Ok prog w T YC own H s.heap)(kq:KQ prog w YC T VR own H s Q Q'):wpAny (model prog w) A (call (.builtin "list.index") [.ref a, .str (aJ st) t]) Q' E' s:=by
 refine aU.k_list (O.rep _ _ hH).2 fun v1 n1 l1 rr=> ?_
 have hi:=tU hts rr
 have hlen:v1.size=ts.length:=by have:=Qi hts rr;simpa using this
 have hj:ts.idxOf st<ts.length:=List.idxOf_lt_length_iff.mpr hm
 have hat:∀j (h:j<v1.size),isStrOf (aJ st) v1[j]=(ts[j]'(by omega)==st):=by
  intro j h
  have z:=Qc (aJ st) hi j (by simpa using h) (by simp;omega)
  simp only [List.getElem_map] at z
  rw [Array.getElem_toList] at z
  rw [z]
  by_cases q:ts[j]'(by omega)=st
  ·rw [q];simp
  ·rw [beq_eq_false_iff_ne.mpr q,beq_eq_false_iff_ne.mpr fun z=>q (tL z)]
 refine call_meets PySem.F.slot_list_index ⟨_,l1,rfl⟩ PySem.F.entry_list_index (PySem.F.args_list_index_2 _ _)
  (SeqAt.list_indexAt a v1 n1 none #[] (.str (aJ st) t) (isStrOf (aJ st)) (ts.idxOf st) (by omega) (by have:bh=16777216:=rfl;omega) ?_ ?_) ⟨l1,fun y hy=>(eq_isStrOf (aJ st) t hi y (by simpa using hy)).at _ _,kq _ _ _ _ _ _ hq O .refl (.int _ _)⟩
 ·rw [hat _ (by omega)]
  simp
 ·intro j h hlt
  rw [hat _ h]
  exact beq_eq_false_iff_ne.mpr (by
   have:=List.not_of_lt_findIdx hlt
   simpa using this)
theorem Qn{a:Nat}{es:List (V×V)}{k:V}{v:Value}{Q:Q1}(hu:A.units+20<cLine)(hH:H a=some (.dict es))(hok:bB es k=true)(hq:Q ((aW es k).getD .none) H)(O:Ok prog w T YC own H s.heap)(r1:VR own s.heap k v)(kq:KQ prog w YC T VR own H s Q Q'):wpAny (model prog w) A (call (.builtin "dict.get") [.ref a,v]) Q' E' s:=by
 have R:=(O.rep _ _ hH).2
 induction k using V.casesOn with
 | str k=>
  refine VR.k_str r1 fun t=> ?_
  obtain ⟨kvs,q1,q2,q3⟩:=R.dict_str hok
  refine call_meetsIn PySem.F.slot_dict_get (by obtain ⟨o,_,_,z1,z2,_⟩:=id q1;exact ⟨o,z1,z2.1⟩) PySem.F.entry_dict_get (PySem.F.args_dict_get_2 _ _) (meets_dict_get (strKind prog w) a (strKind_is prog w (aJ k) t) q2) ⟨_,q1.mapOf, ?_⟩
  have e:=q3.find k
  induction z:aW es (.str k) using Option.casesOn with
  | none=>
   rw [z] at e hq
   rw [show valueAt kvs (aJ k)=none from e]
   exact kq _ _ _ _ _ _ hq O .refl .none
  | some x=>
   rw [z] at e hq
   obtain ⟨v,e1,e2⟩:=e
   rw [e1]
   exact kq _ _ _ _ _ _ hq O .refl e2
 | tup k=>
  obtain ⟨ad,rfl⟩:=r1.e_tup
  obtain ⟨xs,q1,q2,q3⟩:=R.dict_tup hok
  obtain ⟨ks,rfl,hkey⟩:=xu (prog:=prog) (w:=w) (Bool.and_eq_true_iff.1 hok).1 r1
  refine call_meetsIn PySem.F.slot_dict_get q1.typeIs PySem.F.entry_dict_get (PySem.F.args_dict_get_2 _ _) (meetsH_dict_get (tupleKind (oF prog w)) a _ q2) ⟨tupleKind_room_in1 (by omega),ks,xs,hkey,q1, ?_⟩
  have e:=q3.find ks
  induction z:aW es (.tup (ks.map SB.val)) using Option.casesOn with
  | none=>
   rw [z] at e hq
   rw [show atKey xs ks=none from e]
   exact kq _ _ _ _ _ _ hq O .refl .none
  | some x=>
   rw [z] at e hq
   obtain ⟨v,e1,e2⟩:=e
   rw [e1]
   exact kq _ _ _ _ _ _ hq O .refl e2
 | _=>exact nomatch hok
theorem Qo{a:Nat}{es:List (V×V)}{k:Txt}{t:Tok}{y:V}{v:Value}{Q:Q1}(hH:H a=some (.dict es))(hok:bB es (.str k)=true)(hnone:aW es (.str k)= .none)(hq:Q y H)(O:Ok prog w T YC own H s.heap)(r2:VR own s.heap y v)(kq:KQ prog w YC T VR own H s Q Q'):wpAny (model prog w) A (call (.builtin "dict.pop") [.ref a, .str (aJ k) t,v]) Q' E' s:=by
 obtain ⟨kvs,q1,q2,q3⟩:=(O.rep _ _ hH).2.dict_str hok
 have e:=q3.find k
 rw [hnone] at e
 exact call_meetsIn PySem.F.slot_dict_pop (by obtain ⟨o,_,_,z1,z2,_⟩:=id q1;exact ⟨o,z1,z2.1⟩) PySem.F.entry_dict_pop (PySem.F.args_dict_pop_3 _ _ _) (meets_dict_pop_default (strKind prog w) a (strKind_is prog w (aJ k) t) q2 rfl _) ⟨kvs,q1,e,kq _ _ _ _ _ _ hq O .refl r2⟩
theorem Qp{b:Nat}{ys:List V}{sep:Txt}{t:Tok}{ts:List Txt}{Q:Q1}(hH:H b=some (.list ys))(hts:bU ys=some ts)(hl:(ts.map (·.length)).sum+ts.length*sep.length≤bh)(hq:Q (.str (jO sep ts)) H)(O:Ok prog w T YC own H s.heap)(kq:KQ prog w YC T VR own H s Q Q'):wpAny (model prog w) A (call (.builtin "str.join") [.str (aJ sep) t, .ref b]) Q' E' s:=by
 refine aU.k_list (O.rep _ _ hH).2 fun v1 n1 l1 rr=> ?_
 refine join_list (ys:=ts.map aJ) ⟨_,l1,rfl,n1,rfl⟩ (tU hts rr) ?_ fun t' k=> ?_
 ·rw [List.map_map,show Str.length∘aJ=List.length from funext jx,List.length_map,jx]
  exact hl
 ·rw [PJ]
  exact kq _ _ _ _ k _ hq O .refl (.str _ _)
theorem DX(G:Gd prog w YC K T){a c:Nat}{v:Value}{o:Obj}{vs:Array Value}{Q':Value→Shared→Prop}(O:Ok prog w T YC own H s.heap)(e1:s.heap.get? a=some o)(e2:o.cls= .ref c)(e4:o.data= .fields vs)(e10:(T.cls c).any (·.isExc)=true)(e11:2<vs.size)
  (fin:Q' .none {s with heap:=(s.heap.push {cls:= .type "tuple",data:= .seq #[v]}).update a (Obj.mapFields (·.setIfInBounds 0 (.ref s.heap.objs.size)))}):wpAny (model prog w) A (call (.builtin "Exception.__init__") [.ref a,v]) Q' E' s:=by
 obtain ⟨k,hk,hx⟩:=(Option.any_eq_true (p:=fun k:Cls=>k.isExc) (x:=T.cls c)).mp e10
 obtain ⟨nm,q,N,bs,hdct,sn,sub,ab,col,dd,k0,k1,k2,k3,k5,hC⟩:=(G.cls _ _ hk).excO hx
 have hC:s.heap.get? c=some _:=(G.X.keeps O.base) _ _ hC
 have e1':(s.heap.push {cls:= .type "tuple",data:= .seq #[v]}).get? a=some o:=Heap.get?_push_of_some _ e1
 obtain ⟨hp,g,dr,tk,os⟩:=s
 have EF:=PySem.F.excBase_Exception
 refine wpAny_call (codeAny_call_builtin EF.init.plain EF.initEntry (wpAny_check_init_sub EF hC e1 e2 ?_))
 show wpAny _ _ (newTuple [v]>>=fun t=>Builtin.BaseException.bexcPut (.ref a) 0 t>>=fun zz=>ret .none) _ _ _
 refine wpAny_bind (wpAny_newObj_type ?_ (by show (1:Nat)≤sizeLine;rw [sizeLine_eq];omega))
 unfold Builtin.BaseException.bexcPut
 obtain ⟨old,hold⟩:∃old,vs[0]? =some old:=⟨vs[0]'(by omega),Array.getElem?_eq_getElem (by omega)⟩
 refine wpAny_bind (wpAny_bind (wpAny_field e1' e4 hold ?_))
 refine wpAny_bind (wpAny_setField e1' e4 (by omega) ?_)
 induction old using PySem.Value.casesOn<;>first | exact wpAny_pure (wpAny_pure fin) | exact wpAny_letGo (wpAny_pure fin)
theorem DY{a:Nat}{o:O}(h:H a=some o):H.upd a o=H:=by
 funext b
 unfold MH.upd
 split
 ·rename_i z;rw [z,h]
 ·rfl
set_option tactic.hygienic true in
theorem Qq(G:Gd prog w YC K T){a c:Nat}{fs:List (String×V)}{v:Value}{Q:Q1}(hH:H a=some (.exc c fs))(hb:Q .none H)(O:Ok prog w T YC own H s.heap)(kq:KQ prog w YC T VR own H s Q Q'):wpAny (model prog w) A (call (.builtin "Exception.__init__") [.ref a,v]) Q' E' s:=by
 obtain ⟨hown,R⟩:=O.rep _ _ hH
 cases R with
 | exc e1 e2 e3 e4 e5 e6 e7 e8 e9 e10 e11 e12 e13=>
  rename_i d m o vs
  obtain ⟨O1,X1⟩:=O.push {cls:= .type "tuple",data:= .seq #[v]} none
  have e1':(s.heap.push {cls:= .type "tuple",data:= .seq #[v]}).get? a=some o:=Heap.get?_push_of_some _ e1
  have hR:=O1.rep _ _ hH
  have eo:o={cls:= .ref c,dict:=some d,data:= .fields vs,slots:=o.slots}:=by induction o using PySem.Obj.casesOn;simp_all
  have e1'':((s.heap.push {cls:= .type "tuple",data:= .seq #[v]}).update a (Obj.mapFields (·.setIfInBounds 0 (.ref s.heap.objs.size)))).get? a=some {cls:= .ref c,dict:=some d,data:= .fields (vs.setIfInBounds 0 (.ref s.heap.objs.size)),slots:=o.slots}:=by
   rw [Heap.get?_update_self (Obj.mapFields (·.setIfInBounds 0 (.ref s.heap.objs.size))) e1' (by rw [eo];rfl)]
   rw [eo];rfl
  have sb:=Heap.SameBut.update (s.heap.push {cls:= .type "tuple",data:= .seq #[v]}) a (Obj.mapFields (·.setIfInBounds 0 (.ref s.heap.objs.size)))
  have hown1:own.set s.heap.objs.size none a=some a:=by rw [jy e1];exact hown
  have hown2:own.set s.heap.objs.size none d=some a:=by
   obtain ⟨od,_,_,z,_⟩:=id e7
   rw [jy z];exact e5
  obtain ⟨O2,X2⟩:=O1.upd (F:=aV) (b:=a) (u:=a) (ob:= .exc c fs) hown1 e1' sb ⟨_,e1''⟩ hown1 (fun tk=>by
   have e7':(s.heap.push {cls:= .type "tuple",data:= .seq #[v]}).Ns1 d m:=e7.keeps fun b ob z=>Heap.get?_push_of_some _ z
   refine .exc e1'' rfl rfl rfl hown2 e6 (e7'.sameBut sb e6) ((e8.keep X1.tup).keep tk) e9 e10 (by rw [Array.size_setIfInBounds];exact e11) (by rw [Array.getElem?_setIfInBounds_ne (by decide)];exact e12) ?_
   refine e13.imp (fun z=>by rw [Array.getElem?_setIfInBounds_ne (by decide)];exact z) fun ⟨t,ot,ts,q1,q2,q3,q4,q5,q6⟩=>⟨t,ot,ts,by rw [Array.getElem?_setIfInBounds_ne (by decide)];exact q1,by rw [jy q4];exact q2,q3,(sb.2 _ q3).trans (Heap.get?_push_of_some _ q4),q5,q6⟩) (fun zz zz zz=>⟨_,_,rfl⟩) (fun _ ⟨o',vs',t,z1,z2,z3⟩=>by
    rw [e1'] at z1;obtain rfl:=Option.some.inj z1
    rw [e4] at z2;injection z2 with z2
    exact ⟨_,_,t,e1'',rfl,by rw [Array.getElem?_setIfInBounds_ne (by decide),z2];exact z3⟩)
  rw [DY hH] at O2 X2
  exact DX G O e1 e2 e4 e10 e11 (kq _ _ _ _ s.toks _ hb O2 (X1.trans X2) .none)
 | exc0 e1 e2 e3 e4 e10 e11 e12 e13=>
  rename_i o vs
  obtain ⟨O1,X1⟩:=O.push {cls:= .type "tuple",data:= .seq #[v]} none
  have e1':(s.heap.push {cls:= .type "tuple",data:= .seq #[v]}).get? a=some o:=Heap.get?_push_of_some _ e1
  have hR:=O1.rep _ _ hH
  have eo:o={cls:= .ref c,dict:=none,data:= .fields vs,slots:=o.slots}:=by induction o using PySem.Obj.casesOn;simp_all
  have e1'':((s.heap.push {cls:= .type "tuple",data:= .seq #[v]}).update a (Obj.mapFields (·.setIfInBounds 0 (.ref s.heap.objs.size)))).get? a=some {cls:= .ref c,dict:=none,data:= .fields (vs.setIfInBounds 0 (.ref s.heap.objs.size)),slots:=o.slots}:=by
   rw [Heap.get?_update_self (Obj.mapFields (·.setIfInBounds 0 (.ref s.heap.objs.size))) e1' (by rw [eo];rfl)]
   rw [eo];rfl
  have sb:=Heap.SameBut.update (s.heap.push {cls:= .type "tuple",data:= .seq #[v]}) a (Obj.mapFields (·.setIfInBounds 0 (.ref s.heap.objs.size)))
  have hown1:own.set s.heap.objs.size none a=some a:=by rw [jy e1];exact hown
  obtain ⟨O2,X2⟩:=O1.upd (F:=aV) (b:=a) (u:=a) (ob:= .exc c []) hown1 e1' sb ⟨_,e1''⟩ hown1 (fun tk=>by
   refine .exc0 e1'' rfl rfl rfl e10 (by rw [Array.size_setIfInBounds];exact e11) (by rw [Array.getElem?_setIfInBounds_ne (by decide)];exact e12) ?_
   refine e13.imp (fun z=>by rw [Array.getElem?_setIfInBounds_ne (by decide)];exact z) fun ⟨t,ot,ts,q1,q2,q3,q4,q5,q6⟩=>⟨t,ot,ts,by rw [Array.getElem?_setIfInBounds_ne (by decide)];exact q1,by rw [jy q4];exact q2,q3,(sb.2 _ q3).trans (Heap.get?_push_of_some _ q4),q5,q6⟩) (fun zz zz zz=>⟨_,_,rfl⟩) (fun _ ⟨o',vs',t,z1,z2,z3⟩=>by
    rw [e1'] at z1;obtain rfl:=Option.some.inj z1
    rw [e4] at z2;injection z2 with z2
    exact ⟨_,_,t,e1'',rfl,by rw [Array.getElem?_setIfInBounds_ne (by decide),z2];exact z3⟩)
  rw [DY hH] at O2 X2
  exact DX G O e1 e2 e4 e10 e11 (kq _ _ _ _ s.toks _ hb O2 (X1.trans X2) .none)
theorem Qs(G:Gd prog w YC K T){m:BM}{self:V}{sv:Value}{vs:List V}{YG:List Value}{Q:Q1}(hb:pM m self vs H Q)(O:Ok prog w T YC own H s.heap)(rs:VR own s.heap self sv)(rv:aB own s.heap vs YG)(hu:A.units+20<cLine)
  (kq:KQ prog w YC T VR own H s Q Q'):wpAny (model prog w) A (call (.builtin (ir m)) (jY m sv++YG)) Q' E' s:=by
 induction m using BM.casesOn with
 | append=>
  exact aa.el hb fun a hs h1=>aa.el h1 fun xs hH h2=>aa.el h2 fun x hv h3=>by
   obtain rfl:=dD hs;obtain rfl:=jU hv
   exact VR.k_ref rs (aB.k_one rv fun v r1=>Qj (dO hH) h3.1 h3.2 O r1 kq)
 | lpop=>
  exact aa.el hb fun a hs h1=>aa.el h1 fun xs hH h2=>aa.el h2.2.2 fun x hx h3=>by
   obtain rfl:=dD hs;obtain rfl:=h2.1
   exact VR.k_ref rs (aB.k_nil rv (Qk (dO hH) h2.2.1 hx h3 O kq))
 | extend=>
  exact aa.el hb fun a hs h1=>aa.el h1 fun xs hH h2=>aa.el h2 fun y hv h3=>aa.el h3 fun ys hB h4=>cg hv fun u hu e=>by
   obtain rfl:=dD hs;obtain rfl:=dD e;obtain rfl:=jU hu
   exact VR.k_ref rs (aB.k_one rv fun v r1=>VR.k_ref r1 (Ql (dO hH) (dO hB) h4.2.1 h4.2.2 O kq))
 | index=>
  exact aa.el hb fun a hs h1=>aa.el h1 fun xs hH h2=>aa.el h2 fun y hv h3=>aa.el h3 fun ts hts h4=>cg hv fun u hu e=>by
   obtain rfl:=dD hs;obtain rfl:=lA e;obtain rfl:=jU hu
   exact VR.k_ref rs (aB.k_one rv fun v r1=>VR.k_str r1 fun t=>Qm (dO hH) hts h4.1 h4.2.1 h4.2.2 O kq)
 | dget=>
  exact aa.el hb fun a hs h1=>aa.el h1 fun es hH h2=>aa.el h2 fun k hv h3=>by
   obtain rfl:=dD hs;obtain rfl:=jU hv
   exact VR.k_ref rs (aB.k_one rv fun v r1=>Qn hu (ql hH) h3.1 h3.2 O r1 kq)
 | dpop=>
  exact aa.el hb fun a hs h1=>aa.el h1 fun es hH h2=>aa.el h2 fun p hv h3=>aa.el h3 fun k hk h4=>by
   obtain rfl:=dD hs;obtain rfl:=tM hv
   rw [lA hk] at rv
   exact VR.k_ref rs (aB.k_two rv fun v w r1 r2=>VR.k_str r1 fun t=>Qo (ql hH) h4.1 h4.2.1 h4.2.2 O r2 kq)
 | join=>
  exact aa.el hb fun sep hs h1=>aa.el h1 fun b hv h2=>aa.el h2 fun ys hB h3=>aa.el h3 fun ts hts h4=>cg hv fun u hu e=>by
   obtain rfl:=lA hs;obtain rfl:=dD e;obtain rfl:=jU hu
   exact VR.k_str rs fun t=>aB.k_one rv fun v r1=>VR.k_ref r1 (Qp (dO hB) hts h4.1 h4.2 O kq)
 | excInit=>
  exact aa.el hb fun a hv h1=>aa.el h1 fun c hc h2=>cg hv fun p hp e=>by
   obtain rfl:=tM hp
   rw [dD e] at rv
   obtain ⟨fs,hH⟩:=wZ hc
   exact aB.k_two rv fun v w r1 r2=>VR.k_ref r1 (Qq G hH h2 O kq)
end
set_option maxHeartbeats 1000000
theorem xA{env:Env}{e:Expr}{es:List Expr}(h:fQ e=true):starEach (e::es) env=(false,eval e env)::starEach es env:=by induction e using PySem.Expr.casesOn<;>first | rfl | exact absurd h Bool.false_ne_true
theorem Ea{env:Env}{pos:Pos}:∀{es:List Expr},es.all fQ=true→(backTo pos (starEach es env)).any (·.1)=false
 | [],_=>rfl
 | e::es,h=>by
  rw [List.all_cons,Bool.and_eq_true] at h
  rw [xA h.1]
  exact Ea h.2
theorem Eb{env:Env}{pos:Pos}:∀{es:List Expr},es.all fQ=true→(backTo pos (starEach es env)).all (fun x=> !x.1)=true
 | [],_=>rfl
 | e::es,h=>by
  rw [List.all_cons,Bool.and_eq_true] at h
  rw [xA h.1]
  exact Eb h.2
section
variable{prog:Program}{w:World}{YC:Heap}{K:Frag}{T:Tab}
theorem Ec(G:Gd prog w YC K T){M:Model}{own:ak}{h:Heap}{f:V}{fv:Value}(hf:zQ T f=true)(r:VR own h f fv)(X:K.In h):∃k,(k=Keeper.frame∨k=Keeper.machine∨k=Keeper.boundFrame)∧Looks M h (keeperOf fv) k:=by
 induction f using V.casesOn with
 | con v=>
  refine VR.k_con r fun zz=> ?_
  induction v using PySem.Value.casesOn with
  | ref a=>exact keeps_K (G.keep _ hf) h X
  | builtin=>exact ⟨.machine, .inr (.inl rfl), .now⟩
  | type=>exact ⟨.machine, .inr (.inl rfl), .now⟩
  | _=>exact bz hf
 | _=>exact bz hf
theorem tY{M:Model}{A:Around}{s:Shared}{env:Env}{pos p:Pos}{fv:Value}{first:List Value}{es:List Expr}{Q':Value→Shared→Prop}{E':Value→Shared→Prop}(hp:es.all fQ=true)
  (h:wpAny M A (spliced (backTo p (starEach es env))) (fun YG s₁=>(∃k,(k=Keeper.frame∨k=Keeper.machine∨k=Keeper.boundFrame)∧Looks M s₁.heap (keeperOf fv) k)∧wpAny M A (call fv (first++YG)) Q' E' s₁) E' s):
  wpAny M A (callWith pos fv first (backTo p (starEach es env)) []) Q' E' s:=by
 refine callWith_of (P:=fun h=>∃k,(k=Keeper.frame∨k=Keeper.machine∨k=Keeper.boundFrame)∧Looks M h (keeperOf fv) k) (by rw [Ea hp];rfl) (fun zz z=>z) ?_
 induction es using List.casesOn with
 | nil=>exact fun Γ p' hΓ=>evalArgs_nil3 (h Γ p' hΓ) Γ p' hΓ
 | cons e es=>
  rw [List.all_cons,Bool.and_eq_true] at hp
  rw [xA hp.1] at h ⊢
  exact evalArgs_plain h
theorem Qt(G:Gd prog w YC K T){sc:SC}{f:Expr}{args:List Expr}{p:Pos}{x:X}{xs:List X}(hf:SE prog w YC T sc f x)(ha:SL prog w YC T sc args xs)(hp:args.all fQ=true)(hn:z9 f=true):SE prog w YC T sc (.Call f args [] p) (.call x xs):=by
 intro env C d hd fr loc H Q E he hc hw A own s Q' E' I F kq ke
 have arm:eval (.Call f args [] p) env=(do callWith p (←eval f env) [] (backTo p (starEach args env)) (backToKw p (keywordEach [] env))):=by
  induction f using PySem.Expr.casesOn<;>first | rfl | exact absurd hn Bool.false_ne_true
 rw [arm]
 refine wpAny_bind (hf env C d hd fr loc H _ E he hc hw A own s _ E' I F (fun fv H1 YF h1 tk1 fval hw1 O1 X1 r1=> ?_) ke)
 refine tY (es:=args) hp (ha env C d hd fr loc H1 _ E p he hc hw1 A YF _ _ E' (I.step O1 X1) (F.keep X1) (fun vs H2 own2 h2 tk2 YG hw2 O2 X2 r2=> ?_) (ke.step X1))
 obtain ⟨c1,c2⟩:=hc hd fv vs H2 Q E hw2
 have r1':=r1.keep X2.tup
 refine ⟨Ec G c1 r1' (G.X.keeps O2.base), ?_⟩
 exact c2 A fr own2 _ fval YG Q' E' (I.step O2 (X1.trans X2)) r1' r2 (kq.step (X1.trans X2)) (ke.step (X1.trans X2))
theorem Qu(G:Gd prog w YC K T){sc:SC}{o:Expr}{n:String}{ap:Pos}{args:List Expr}{p:Pos}{x:X}{xs:List X}(hf:SE prog w YC T sc o x)(ha:SL prog w YC T sc args xs)(hp:args.all fQ=true)(hn:pW o=true)(hl:args.length<30)(hline:(ap.endLine==p.line)=true):
  SE prog w YC T sc (.Call (.Attribute o (nm n) ap) args [] p) (.meth x n xs):=by
 intro env C d hd fr loc H Q E he hc hw A own s Q' E' I F kq ke
 have hform:methodCallForm (args.length+0) (backTo p (starEach args env)) (backToKw p (keywordEach [] env))=true:=by
  unfold methodCallForm
  rw [Eb hp]
  show (true && true && decide (args.length+0+0<30))=true
  simpa using hl
 have hpos:methodCallPos true o env ap p=pure p:=by unfold methodCallPos;simp [hline]
 rw [arm_eval_Call,DP hn]
 refine wpAny_bind (hf env C d hd fr loc H _ E he hc hw A own s _ E' I F (fun ov H1 YF h1 tk1 oval hw1 O1 X1 r1=> ?_) ke)
 refine wpAny_bind (wpAny_standAt ?_)
 unfold methodCall
 rw [show args.length+([]:List Keyword).length=args.length+0 from rfl,hform]
 refine wpAny_bind (wpAny_holding ?_)
 show wpAny _ _ (getMethod oval (nm n) _) _ _ _
 refine aa.el hw1 fun cal hcal h2=> ?_
 clear hw1
 refine Qa G hcal O1 r1 (fun f first fv fvs tk e rf rfs=> ?_) (fun m tk e=> ?_)
 ·subst e
  refine wpAny_bind (wpAny_of_eq hpos ?_)
  refine tY (es:=args) hp (ha env C d hd fr loc H1 _ E p he hc h2 A YF _ _ E' (I.step O1 X1) (F.keep X1) (fun vs H2 own2 h2 tk2 YG hw2 O2 X2 r2=> ?_) (ke.step X1))
  obtain ⟨c1,c2⟩:=hc hd f (first++vs) H2 Q E hw2
  refine ⟨Ec G c1 (rf.keep X2.tup) (G.X.keeps O2.base), ?_⟩
  exact c2 A fr own2 _ fv _ Q' E' (I.step O2 (X1.trans X2)) (rf.keep X2.tup) ((rfs.keep X2.tup).append r2) (kq.step (X1.trans X2)) (ke.step (X1.trans X2))
 ·subst e
  refine wpAny_bind (wpAny_of_eq hpos ?_)
  refine tY (es:=args) hp (ha env C d hd fr loc H1 _ E p he hc h2 A YF _ _ E' (I.step O1 X1) (F.keep X1) (fun vs H2 own2 h2 tk2 YG hw2 O2 X2 r2=> ?_) (ke.step X1))
  refine ⟨⟨.machine, .inr (.inl rfl), .now⟩, ?_⟩
  exact Qs G hw2 O2 (r1.keep X2.tup) r2 (I.ao.u (by decide)) (kq.step (X1.trans X2))
end
noncomputable def HG(hd:Option Value)(h:Heap):Prop:=hd=none∨∃e oe ve,hd=some (.ref e)∧h.get? e=some oe∧oe.data= .fields ve∧ve[2]? =some .none
theorem HG.of_it{hd:Option Value}{it:Addr}{h h':Heap}(g:HG hd h){o:Obj}{vs:Array Value}(ho:h.get? it=some o)(hdat:o.data= .fields vs)(hsz:vs[2]? ≠some .none)(x:Heap.ExtBut it h h'):HG hd h':=by
 rcases g with g | ⟨e,oe,ve,g1,g2,g3,g4⟩
 ·exact .inl g
 ·refine .inr ⟨e,oe,ve,g1,x e oe (fun q=> ?_) g2,g3,g4⟩
  subst q
  rw [ho] at g2;obtain rfl:=Option.some.inj g2
  rw [hdat] at g3;injection g3 with g3
  rw [g3] at hsz;exact hsz g4
theorem Qv:entryFor table "proto.unchain"=some Builtin.«proto.unchain»:=entryFor_of_fast (by kernel_rfl)
section
variable{prog:Program}{w:World}{A:Around}{E:Value→Shared→Prop}{s:Shared}
theorem Qw{α:Type}{e:Addr}{o:Obj}{vs:Array Value}{Q:α→Shared→Prop}(hg:HG A.handled s.heap)(he:s.heap.get? e=some o)(hd:o.data= .fields vs)(hsz:2<vs.size)
  (hne:∀a,A.handled=some (.ref a)→a≠e)
  (h:∀h',Heap.SameBut e s.heap h'→(∃o',h'.get? e=some o'∧o'.cls=o.cls)→E (.ref e) (aF s h' s.toks)):wpAny (model prog w) A (raiseNew (.ref e):Sem α) Q E s:=by
 unfold raiseNew
 refine wpAny_bind (wpAny_handled ?_)
 rcases hg with hg | ⟨a,oa,va,g1,g2,g3,g4⟩
 ·rw [hg]
  refine wpAny_bind (wpAny_pure (wpAny_throw ?_))
  exact h _ (.refl ..) ⟨o,he,rfl⟩
 ·rw [g1]
  have hn:=hne a g1
  have hv:((Value.ref a !=Value.ref e)=true):=by
   rw [bne_iff_ne];intro z;injection z with z;exact hn z
  dsimp only
  rw [if_pos hv]
  refine wpAny_bind (wpAny_holding (wpAny_runValue (codeAny_builtin Qv ?_)))
  show wpAny _ _ (field (.ref a) 2>>=_) _ _ s
  refine wpAny_bind (wpAny_field g2 g3 g4 ?_)
  show wpAny _ _ (if (Value.none==Value.none)=true then _ else _) _ _ s
  rw [if_pos (by rfl)]
  refine wpAny_pure ?_
  show wpAny _ _ (PySem.setField (.ref e) 2 (.ref a)>>=_) _ _ s
  refine wpAny_bind (wpAny_setField he hd hsz ?_)
  refine wpAny_throw (h _ (Heap.SameBut.update ..) ?_)
  exact ⟨_,Heap.get?_update_self _ he (Obj.isFreed_of_fields (Obj.data_mapFields hd _)),Obj.cls_mapFields ..⟩
theorem tZ{α:Type}{Q:α→Shared→Prop}(hg:HG A.handled s.heap)(h:∀h',(∀b o,s.heap.get? b=some o→h'.get? b=some o)→∀e,Shared.TypeIs (aF s h' s.toks) (.ref e) "StopIteration"→E (.ref e) (aF s h' s.toks)):
  wpAny (model prog w) A ((newExc (.type "StopIteration") []:Sem Value)>>=fun e=>(raiseNew e:Sem α)) Q E s:=by
 refine wpAny_bind ?_
 simp only [newExc,newTuple]
 refine wpAny_bind (wpAny_newObj_type ?_ (by size_fits))
 refine wpAny_bind (m:=firstArgMember _ _) (wpAny_of_eq (a:=Value.none) (by first | rfl | (simp only [firstArgMember];rfl)) ?_)
 refine wpAny_newObj_type ?_ (by size_fits)
 refine Qw (o:=_) (vs:=_) ?_ (Heap.get?_push_size _ rfl) rfl (by rw [Array.size_append];show 2<6+_;omega) (fun a ha=> ?_) fun h' hs ho=> ?_
 ·rcases hg with hg | ⟨a,oa,va,g1,g2,g3,g4⟩
  ·exact .inl hg
  ·exact .inr ⟨a,oa,va,g1,Heap.get?_push_of_some _ (Heap.get?_push_of_some _ g2),g3,g4⟩
 ·rcases hg with hg | ⟨a',oa,va,g1,g2,g3,g4⟩
  ·rw [hg] at ha;exact aG ha
  ·rw [g1] at ha;injection ha with ha;injection ha with ha
   subst ha
   have:=Heap.lt_size g2
   show _≠(Heap.push _ _).objs.size
   rw [Heap.size_push]
   exact Nat.ne_of_lt (Nat.lt_succ_of_lt this)
 ·refine h h' (fun b o hb=> ?_) _ ?_
  ·have:=Heap.lt_size hb
   refine (hs.2 b ?_).trans (Heap.get?_push_of_some _ (Heap.get?_push_of_some _ hb))
   show _≠(Heap.push _ _).objs.size
   rw [Heap.size_push]
   exact Nat.ne_of_lt (Nat.lt_succ_of_lt this)
  ·obtain ⟨o',ho',hc⟩:=ho
   exact ⟨o',ho',hc⟩
end
section
variable{prog:Program}{w:World}{A:Around}{E:Value→Shared→Prop}{s:Shared}
theorem Qx{it l:Addr}{i:Nat}{items}{Q:Option Value→Shared→Prop}(hh:HG A.handled s.heap)
  (hit:s.heap.IsListIter it l i) (hl:s.heap.IsList l items) (hx:items[i]? =none)
  (hQ:∀h',Heap.ExtBut it s.heap h'→(∃o,h'.get? it=some o)→Q none (aF s h' s.toks)):wpAny (model prog w) A (pyNext (.ref it)) Q E s:=by
 obtain ⟨o,ho,hc,hd⟩:=id hit
 obtain ⟨ol,hol,_,nl,hdl⟩:=hl
 unfold pyNext
 refine wpAny_bind (wpAny_attempt (wpAny_callSpecial?_slot (name:=Str.ofString "__next__") hit.typeIs slot_listiter_next
  (wpAny_call_entry slot_listiter_next hit.typeIs entry_listiter_next ?_ (args_listiter_next _))))
 show wpAny _ _ (field (.ref it) 0>>=_) _ _ s
 refine wpAny_bind (wpAny_field ho hd (x:= .ref l) rfl ?_)
 show wpAny _ _ (if (Value.ref l==Value.none)=true then _ else _) _ _ s
 rw [if_neg (show¬((Value.ref l==Value.none)=true) from Bool.false_ne_true)]
 show wpAny _ _ (field (.ref it) 1>>=_) _ _ s
 refine wpAny_bind (wpAny_field ho hd (x:= .int i 0) rfl ?_)
 show wpAny _ _ (seqItems? (.ref l)>>=_) _ _ s
 refine wpAny_bind (wpAny_seqItems hol hdl ?_)
 simp only [Int.toNat_natCast,hx]
 refine wpAny_bind (wpAny_rule (wpAny_bind (wpAny_setField ho hd (by simp) ?_)))
 show wpAny _ _ (newExc (.type "StopIteration") []>>=_) _ _ _
 refine tZ (HG.of_it hh ho hd (by simp) (Heap.SameBut.update ..).extBut) fun h' hk e hT=> ?_
 refine wpAny_bind (wpAny_isInstance (T:="StopIteration") (b:=true) hT isSubtype_stop ?_)
 exact wpAny_pure (hQ _ (fun b o hb eb=>hk b o ((Heap.SameBut.update ..).extBut b o hb eb)) ⟨_,hk it _ (Heap.get?_update_self _ ho (Obj.isFreed_of_fields (Obj.data_mapFields hd _)))⟩)
theorem Qy{it t:Addr}{i:Nat}{items}{Q:Option Value→Shared→Prop}(hh:HG A.handled s.heap)
  (hit:s.heap.IsTupleIter it t i) (ht:s.heap.IsTuple t items) (hx:items[i]? =none)
  (hQ:∀h',Heap.ExtBut it s.heap h'→(∃o,h'.get? it=some o)→Q none (aF s h' s.toks)):wpAny (model prog w) A (pyNext (.ref it)) Q E s:=by
 obtain ⟨o,ho,hc,hd⟩:=id hit
 obtain ⟨ol,hol,_,nl,hdl⟩:=ht
 unfold pyNext
 refine wpAny_bind (wpAny_attempt (wpAny_callSpecial?_slot (name:=Str.ofString "__next__") hit.typeIs F.slot_tuple_iterator_next
  (wpAny_call_entry F.slot_tuple_iterator_next hit.typeIs F.entry_tuple_iterator_next ?_ (F.args_tuple_iterator_next_1 _))))
 show wpAny _ _ (field (.ref it) 0>>=_) _ _ s
 refine wpAny_bind (wpAny_field ho hd (x:= .ref t) rfl ?_)
 show wpAny _ _ (if (Value.ref t==Value.none)=true then _ else _) _ _ s
 rw [if_neg (show¬((Value.ref t==Value.none)=true) from Bool.false_ne_true)]
 show wpAny _ _ (field (.ref it) 1>>=_) _ _ s
 refine wpAny_bind (wpAny_field ho hd (x:= .int i 0) rfl ?_)
 show wpAny _ _ (seqItems? (.ref t)>>=_) _ _ s
 refine wpAny_bind (wpAny_seqItems hol hdl ?_)
 simp only [Int.toNat_natCast,hx]
 refine wpAny_bind (wpAny_rule (wpAny_bind (wpAny_setField ho hd (by simp) ?_)))
 show wpAny _ _ (newExc (.type "StopIteration") []>>=_) _ _ _
 refine tZ (HG.of_it hh ho hd (by simp) (Heap.SameBut.update ..).extBut) fun h' hk e hT=> ?_
 refine wpAny_bind (wpAny_isInstance (T:="StopIteration") (b:=true) hT isSubtype_stop ?_)
 exact wpAny_pure (hQ _ (fun b o hb eb=>hk b o ((Heap.SameBut.update ..).extBut b o hb eb)) ⟨_,hk it _ (Heap.get?_update_self _ ho (Obj.isFreed_of_fields (Obj.data_mapFields hd _)))⟩)
theorem Qz{it:Addr}{x left step:Int}{Q:Option Value→Shared→Prop}(hh:HG A.handled s.heap)(hit:IsRangeIter s.heap it x left step)(hleft:left≤0)
  (hQ:∀h',Heap.ExtBut it s.heap h'→(∃o,h'.get? it=some o)→Q none (aF s h' s.toks)):wpAny (model prog w) A (pyNext (.ref it)) Q E s:=by
 have hT:s.TypeIs (.ref it) "range_iterator":=⟨_,hit,rfl⟩
 unfold pyNext
 refine wpAny_bind (wpAny_attempt (wpAny_callSpecial?_slot (name:=Str.ofString "__next__") hT F.slot_range_iterator_next
  (wpAny_call_entry F.slot_range_iterator_next hT F.entry_range_iterator_next ?_ (F.args_range_iterator_next_1 _))))
 show wpAny _ _ (field (.ref it) 0>>=_) _ _ s
 refine wpAny_bind (wpAny_field hit rfl (x:=rawInt x) rfl ?_)
 show wpAny _ _ (field (.ref it) 1>>=_) _ _ s
 refine wpAny_bind (wpAny_field hit rfl (x:=rawInt left) rfl ?_)
 show wpAny _ _ (field (.ref it) 2>>=_) _ _ s
 refine wpAny_bind (wpAny_field hit rfl (x:=rawInt step) rfl ?_)
 show wpAny _ _ (if left≤0 then _ else _) _ _ s
 rw [if_pos hleft]
 refine wpAny_bind (wpAny_rule ?_)
 refine wpAny_bind ?_
 show wpAny _ _ (newExc (.type "StopIteration") []>>=_) _ _ _
 refine tZ hh fun h' hk e hT=> ?_
 refine wpAny_bind (wpAny_isInstance (T:="StopIteration") (b:=true) hT isSubtype_stop ?_)
 exact wpAny_pure (hQ _ (fun b o hb eb=>hk b o eb) ⟨_,hk it _ hit⟩)
end
inductive cQ(own:ak)(h:Heap)(it:Addr):Bool→V→List V→Nat→Prop
 | list {l xs i}:h.IsListIter it l i→cQ own h it false (.ref l) xs i
 | tup {t vs n xs i}:h.IsTupleIter it t i→own t=none→IsT h t vs n→aB own h xs vs.toList→cQ own h it false (.tup xs) xs i
 | rng {n:Int} {i:Nat}:i≤n.toNat→IsRangeIter h it i ((n.toNat:Int) - i) 1→cQ own h it true (.int n) ((List.range n.toNat).map fun k:Nat=>V.int (k:Int)) i
theorem cQ.keep{own YD:ak}{h h':Heap}{it:Addr}{rng:Bool}{v:V}{xs:List V}{i:Nat}(x:cQ own h it rng v xs i)(hk:dM own h YD h')(hi:∀o,h.get? it=some o→ ¬wY o→h'.get? it=some o):cQ YD h' it rng v xs i:=by
 cases x with
 | list a=>
  obtain ⟨o,ho,hc,hd⟩:=a
  exact .list ⟨o,hi o ho (fun ⟨_,_,z⟩=>by rw [hd] at z;injection z),hc,hd⟩
 | tup a o1 t1 r1=>
  obtain ⟨o,ho,hc,hd⟩:=a
  exact .tup ⟨o,hi o ho (fun ⟨_,_,z⟩=>by rw [hd] at z;injection z),hc,hd⟩ (IsT.keeps hk o1 t1).1 (IsT.keeps hk o1 t1).2 (r1.keep hk)
 | rng a b=>exact .rng a (hi _ b fun ⟨_,_,z⟩=>by injection z)
section
variable{prog:Program}{w:World}{YC:Heap}{K:Frag}{T:Tab}{A:Around}{E:Value→Shared→Prop}{s:Shared}{own:ak}{H:MH}
set_option tactic.hygienic true in
theorem t6(O:Ok prog w T YC own H s.heap)(hg:HG A.handled s.heap){rng:Bool}{v:V}{items:List V}{src:MH→Prop}{H0:MH}(hi:fO H0 rng v=some (items,src))(hs:src H){it:Addr}{i:Nat}
  (I:cQ own s.heap it rng v items i) (ho:own it=none) {Q:Option Value→Shared→Prop}
  (h1:∀x val h' tk,items[i]? =some x→VR own h' x val→cQ own h' it rng v items (i+1)→Heap.SameBut it s.heap h'→Q (some val) (aF s h' tk))
  (h2:items[i]? =none→∀h',Heap.ExtBut it s.heap h'→(∃o,h'.get? it=some o)→Q none (aF s h' s.toks)):wpAny (model prog w) A (pyNext (.ref it)) Q E s:=by
 have tk0:∀h',Heap.SameBut it s.heap h'→(∀o,s.heap.get? it=some o→o.cls≠ .type "tuple")→dM own s.heap own h':=fun h' q c a o e n ct=>
  ⟨n,(q.2 a fun z=>c o (z▸e) ct.1).trans e⟩
 cases I with
 | list a=>
  rename_i l
  have hl:H l=some (.list items):=xd hi (fun zz e zz e'=>by (injection e with zh;subst zh);rw [e'] at hs;exact hs) (fun e=>nomatch e)
  obtain ⟨hown,R⟩:=O.rep l _ hl
  refine aU.k_list R fun vs n q1 q2=> ?_
  have isl:s.heap.IsList l vs:=⟨_,q1,rfl,_,rfl⟩
  have hne:it≠l:=fun z=>by rw [z,hown] at ho;exact jN ho
  induction hx:items[i]? using Option.casesOn with
  | none=>
   refine Qx hg a isl ?_ (h2 hx)
   have:=q2.length
   rw [List.getElem?_eq_none_iff] at hx
   rw [Array.getElem?_eq_none_iff]
   have:vs.toList.length=vs.size:=by simp
   omega
  | some x=>
   obtain ⟨val,e1,e2⟩:=q2.get hx
   rw [Array.getElem?_toList] at e1
   refine wpAny_pyNext_list_item a isl e1 fun h' i' sb=> ?_
   have tk:=tk0 h' sb fun o e c=>by
    obtain ⟨o',z1,z2,_⟩:=a
    rw [e] at z1;obtain rfl:=Option.some.inj z1;rw [z2] at c;injection c with c;exact absurd c (by decide)
   exact h1 x val h' s.toks hx (e2.keep tk) (.list i') sb
 | tup a o1 t1 r1=>
  rename_i t vs n
  have ist:s.heap.IsTuple t vs:=⟨_,t1,rfl,_,rfl⟩
  induction hx:items[i]? using Option.casesOn with
  | none=>
   refine Qy hg a ist ?_ (h2 hx)
   have:=r1.length
   rw [List.getElem?_eq_none_iff] at hx
   rw [Array.getElem?_eq_none_iff]
   have:vs.toList.length=vs.size:=by simp
   omega
  | some x=>
   obtain ⟨val,e1,e2⟩:=r1.get hx
   rw [Array.getElem?_toList] at e1
   refine wpAny_pyNext_tuple_item a ist e1 fun h' i' sb=> ?_
   have tk:=tk0 h' sb fun o e c=>by
    obtain ⟨o',z1,z2,_⟩:=a
    rw [e] at z1;obtain rfl:=Option.some.inj z1;rw [z2] at c;injection c with c;exact absurd c (by decide)
   exact h1 x val h' s.toks hx (e2.keep tk) (.tup i' (IsT.keeps tk o1 t1).1 (IsT.keeps tk o1 t1).2 (r1.keep tk)) sb
 | rng a b=>
  rename_i n
  by_cases hlt:i<n.toNat
  ·refine wpAny_pyNext_range_item b (by omega) fun h' b' sb=> ?_
   refine h1 (.int i) _ h' (s.toks+1) ?_ (.int _ _) (.rng hlt ?_) sb
   ·rw [List.getElem?_map,List.getElem?_range hlt];rfl
   ·have e1:((i+1:Nat):Int)=(i:Int)+1:=by omega
    have e2:(n.toNat:Int) - ((i+1:Nat):Int)=(n.toNat:Int) - i - 1:=by omega
    rw [e2,e1];exact b'
  ·refine Qz hg b (by omega) (h2 ?_)
   rw [List.getElem?_eq_none_iff];simp;omega
end
section
variable{prog:Program}{w:World}{YC:Heap}{K:Frag}{T:Tab}
theorem xB{A:Around}{hd:Option Nat}(hA:A.handled=hd.map Value.ref){own:ak}{H:MH}{h:Heap}(hk:mL hd H)(O:Ok prog w T YC own H h):HG A.handled h:=by
 rw [hA]
 induction hd using Option.casesOn with
 | none=>exact .inl rfl
 | some e=>
  obtain ⟨c,fs,q⟩:=hk e rfl
  obtain ⟨_,R⟩:=O.rep e _ q
  cases R with
  | exc e1 f1 f2 f3 e2 f4 e3 e4 e5 e6 e7 e8 e9=>exact .inr ⟨e,_,_,rfl,e1,f3,e8⟩
  | exc0 e1 f1 f2 f3 e6 e7 e8 e9=>exact .inr ⟨e,_,_,rfl,e1,f3,e8⟩
theorem bF.hg{fr:List Env}{hd:Option Nat}{d:Nat}{A:Around}{own:ak}{H:MH}{h:Heap}(I:bF prog w YC T fr hd d A own H h):HG A.handled h:=xB I.ao.handled I.hk I.ok
theorem Ok.loose{own:ak}{H:MH}{h:Heap}(O:Ok prog w T YC own H h)(o:Obj):Ok prog w T YC (own.set h.objs.size none) H (h.push o)∧aH aV own H h (own.set h.objs.size none) H (h.push o)∧own.set h.objs.size none h.objs.size=none:=by
 have k:∀a ob,h.get? a=some ob→(h.push o).get? a=some ob:=fun a ob e=>Heap.get?_push_of_some _ e
 have ko:∀a ob,h.get? a=some ob→own.set h.objs.size none a=own a:=fun a ob e=>by
  unfold ak.set;rw [if_neg (Nat.ne_of_lt (Heap.lt_size e))]
 exact ⟨O.grow k ko, .of_keeps k ko,by unfold ak.set;rw [if_pos rfl]⟩
theorem mQ{h:Heap}:h.get? h.objs.size=none:=by
 induction e:h.get? h.objs.size using Option.casesOn with
 | none=>rfl
 | some o=>exact absurd (Heap.lt_size e) (Nat.lt_irrefl _)
theorem Ok.none_of{own:ak}{H:MH}{h:Heap}{a:Addr}(O:Ok prog w T YC own H h)(e:h.objs.size≤a):YC.get? a=none:=by
 induction q:YC.get? a using Option.casesOn with
 | none=>rfl
 | some o=>exact absurd (Heap.lt_size (O.base a o q)) (Nat.not_lt.mpr e)
end
theorem aH.none_of{F:Addr→Prop}{own YD:ak}{H H':MH}{h h':Heap}(X:aH F own H h YD H' h'):h.get? h'.objs.size=none:=by
 induction e:h.get? h'.objs.size using Option.casesOn with
 | none=>rfl
 | some o=>
  obtain ⟨o',e'⟩:=X.there _ _ e
  rw [mQ] at e';exact aG e'
theorem aH.trans_new{F G:Addr→Prop}{o1 o2 o3:ak}{H1 H2 H3:MH}{h1 h2 h3:Heap}(x:aH F o1 H1 h1 o2 H2 h2)(y:aH G o2 H2 h2 o3 H3 h3)(hg:∀a,G a→h1.get? a=none):aH F o1 H1 h1 o3 H3 h3:=by
 have ng:∀a o,h1.get? a=some o→ ¬G a:=fun a o e g=>by rw [hg a g] at e;exact aG e
 refine ⟨fun a o e=> ?_,fun a o e n f=> ?_,fun a o e n c=> ?_,fun a o e=> ?_,fun a e=>y.exc a (x.exc a e),fun a e z=>y.tb a (x.exc a e) (x.tb a e z)⟩
 ·obtain ⟨o',e'⟩:=x.there a o e;rw [y.same a o' e',x.same a o e]
 ·obtain ⟨sl,e',q⟩:=x.keep a o e n f
  obtain ⟨sl',e'',q'⟩:=y.keep a _ e' (by rw [x.same a o e];exact n) (ng a o e)
  refine ⟨sl',e'', ?_⟩
  rcases q with q | q
  ·exact .inl q
  ·rcases q' with q' | q'
   ·exact .inl q'
   ·exact .inr (q'.trans q)
 ·exact y.tups a o (x.tups a o e n c) (by rw [x.same a o e];exact n) c
 ·obtain ⟨o',e'⟩:=x.there a o e;exact y.there a o' e'
section
variable(prog:Program)(w:World)(YC:Heap)(T:Tab)
noncomputable def SI(sc:SC)(e:Expr)(rng:Bool)(x:X):Prop:=∀(env:Env) (C:aO) (d:Nat) (hd:Option Nat) (fr:List Env) (loc:Loc) (H:MH) (Q:V→MH→Prop) (E:E1),cj env sc→eZ prog w YC T C d→
 we T C hd x loc H Q E→∀(A:Around) (own:ak) (s:Shared) (Q':Value→Shared→Prop) (E':Value→Shared→Prop),
 bF prog w YC T fr hd d A own H s.heap→FO YC env own s.heap loc→
 (∀v H1,Q v H1→(fO H1 rng v).isSome=true)→
 (∀v H1 YF h1 tk it items src,Q v H1→fO H1 rng v=some (items,src)→Ok prog w T YC YF H1 h1→aH aV own H s.heap YF H1 h1→cQ YF h1 it rng v items 0→YF it=none→s.heap.get? it=none→YC.get? it=none→Q' (.ref it) (aF s h1 tk))→
 KE prog w YC T own H s E E'→wpAny (model prog w) A (eval e env) (fun x s₁=>wpAny (model prog w) A (pyIter x) Q' E' s₁) E' s
end
section
variable{prog:Program}{w:World}{YC:Heap}{K:Frag}{T:Tab}
section
variable{A:Around}{own:ak}{s:Shared}{H:MH}{E:Value→Shared→Prop}
theorem Ed(O:Ok prog w T YC own H s.heap){v:V}{val:Value}{items:List V}{src:MH→Prop}(hi:fO H false v=some (items,src))(r:VR own s.heap v val){Q:Value→Shared→Prop}
  (hQ:∀YD h',Ok prog w T YC YD H h'→aH aV own H s.heap YD H h'→cQ YD h' s.heap.objs.size false v items 0→YD s.heap.objs.size=none→Q (.ref s.heap.objs.size) (aF s h' s.toks)):
  wpAny (model prog w) A (pyIter val) Q E s:=by
 refine xd hi (fun a hv hx zz=> ?_) fun hv zz=> ?_
 ·subst hv
  refine VR.k_ref r (aU.k_list (O.rep a _ hx).2 fun zz zz q1 q2=> ?_)
  refine wpAny_pyIter_list ⟨_,q1,rfl,_,rfl⟩ ?_
  obtain ⟨O2,X2,on⟩:=O.loose {cls:= .type "list_iterator",data:= .fields #[.ref a, .int 0 0]}
  exact hQ _ _ O2 X2 (.list ⟨_,Heap.get?_push_size _ rfl,rfl,rfl⟩) on
 ·subst hv
  refine VR.k_tup r fun t vs n o1 t1 rr=> ?_
  refine wpAny_pyIter_tuple ⟨_,t1,rfl,_,rfl⟩ ?_
  obtain ⟨O2,X2,on⟩:=O.loose {cls:= .type "tuple_iterator",data:= .fields #[.ref t, .int 0 0]}
  have o2:=IsT.keeps X2.tup o1 t1
  exact hQ _ _ O2 X2 (.tup ⟨_,Heap.get?_push_size _ rfl,rfl,rfl⟩ o2.1 o2.2 (rr.keep X2.tup)) on
end
theorem QC{sc:SC}{e:Expr}{x:X}(he:SE prog w YC T sc e x):SI prog w YC T sc e false x:=by
 intro env C d hd fr loc H Q E ev hc hw A own s Q' E' I F hsome kq ke
 refine he env C d hd fr loc H Q E ev hc hw A own s _ E' I F (fun v H1 YF h1 tk val hq O1 X1 r1=> ?_) ke
 obtain ⟨⟨items,src⟩,hi⟩:=Option.isSome_iff_exists.mp (hsome v H1 hq)
 exact Ed O1 hi r1 fun own2 h2 O2 X2 it on=>kq v H1 own2 h2 tk _ items src hq hi O2 (X1.trans X2) it on X1.none_of (O1.none_of (Nat.le_refl _))
theorem QD(G:Gd prog w YC K T){sc:SC}{rp:Pos}{e:Expr}{p:Pos}{x:X}(hf:SE prog w YC T sc (.Name (nm "range") rp) (.k (.con (.type "range"))))(he:SL prog w YC T sc [e] [x])(hn:fQ e=true):SI prog w YC T sc (.Call (.Name (nm "range") rp) [e] [] p) true x:=by
 intro env C d hd fr loc H Q E ev hc hw A own s Q' E' I F hsome kq ke
 have arm:eval (.Call (.Name (nm "range") rp) [e] [] p) env=(do callWith p (←eval (.Name (nm "range") rp) env) [] (backTo p (starEach [e] env)) (backToKw p (keywordEach [] env))):=rfl
 rw [arm]
 refine wpAny_bind (hf env C d hd fr loc H (fun v H1=>v= .con (.type "range")∧H1=H) E ev hc (by exact ⟨rfl,rfl⟩) A own s _ E' I F (fun fv H1 YF h1 tk1 fval hq1 O1 X1 r1=> ?_) ke)
 obtain ⟨rfl,rfl⟩:=hq1
 cases r1
 refine tY (es:= [e]) (by simp [hn]) (he env C d hd fr loc _ (fun vs H2=>aa (jk vs) fun v=>Q v H2) E p ev hc ?_ A YF _ _ E' (I.step O1 X1) (F.keep X1) (fun vs H2 own2 h2 tk2 YG hq2 O2 X2 r2=> ?_) (ke.step X1))
 ·exact hw
 refine aa.el hq2 fun v hv hq=> ?_
 obtain rfl:=jU hv
 clear hq2 hv
 refine aB.k_one r2 fun val ra=> ?_
 refine ⟨⟨.machine, .inr (.inl rfl), .now⟩, ?_⟩
 obtain ⟨⟨items,src⟩,hi⟩:=Option.isSome_iff_exists.mp (hsome v H2 hq)
 refine cg hi fun n hn h3=> ?_
 obtain rfl:=dN hn
 have hi':=hi
 split at h3
 case isFalse=>exact aG h3
 rename_i hn1000
 cases h3
 refine VR.k_int ra fun t=> ?_
 show wpAny _ _ (call (.type "range") [.int n t]) _ _ _
 refine call_range_1 ?_
 try dsimp only
 obtain ⟨O3,X3,on3⟩:=O2.loose {cls:= .type "range",data:= .fields #[.int 0 tk2, .int n t, .int 1 (tk2+1)]}
 refine wpAny_pyIter_range (IsRange.new ..) ?_ ?_
 ·exact small_one (by decide) (by decide) (by omega) (by omega)
 rw [rangeSize_one]
 have hz:(if (0:Int)<n then n - 0 else 0)=(n.toNat:Int):=by split<;>omega
 rw [hz]
 obtain ⟨O4,X4,on4⟩:=O3.loose {cls:= .type "range_iterator",data:= .fields #[rawInt 0,rawInt (n.toNat:Int),rawInt 1]}
 refine kq _ _ _ _ _ _ _ _ hq hi' O4 (((X1.trans X2).trans X3).trans X4) (.rng (Nat.zero_le _) ?_) on4 ((X1.trans X2).trans X3).none_of (O3.none_of (Nat.le_refl _))
 refine (Heap.get?_push_size _ rfl).trans ?_
 simp
end
noncomputable def bQ(env:Env):Addr→Prop:=fun a=>a=env.locals∨∃x,env.kindOf x=some .cell∧env.cells.lookup x=some a
section
variable{prog:Program}{w:World}{YC:Heap}{K:Frag}{T:Tab}
theorem FF.keepF{env:Env}{own YD:ak}{H H':MH}{h h':Heap}{loc loc':Loc}{fr:List Env}(x:FF YC own h fr)(k:aH (bQ env) own H h YD H' h')(F:FO YC env own h loc)(F':FO YC env YD h' loc'):FF YC YD h' fr:=fun env' hm=>by
 obtain ⟨a,L,m,b,c,d,e⟩:=x env' hm
 obtain ⟨o,es,ep,z,hd,_⟩:=id e
 have c':YD L=none:=by rw [k.same L o z];exact c
 by_cases q:L=env.locals
 ·obtain ⟨m',n1,_⟩:=F'.ns
  rw [←q] at n1
  exact ⟨a,L,m',b,c',d,n1.ns⟩
 ·refine ⟨a,L,m,b,c',d,Ns.slots e fun o z=>(k.keep L o z c ?_).imp fun zz q=>q.1⟩
  rintro (q' | ⟨y,hy,hc⟩)
  ·exact q q'
  ·obtain ⟨c2,o2,vo,q1,q2,q3,q4,q6,q7⟩:=F.cell y hy
   rw [hc] at q1;obtain rfl:=Option.some.inj q1
   obtain ⟨o3,_,_,z3,hd3,_⟩:=id e
   rw [q4] at z3;obtain rfl:=Option.some.inj z3
   rw [hd3] at q6;injection q6
theorem bF.stepF{env:Env}{fr:List Env}{hd:Option Nat}{d:Nat}{A:Around}{own YD:ak}{H H':MH}{h h':Heap}{loc loc':Loc}(I:bF prog w YC T fr hd d A own H h)(O:Ok prog w T YC YD H' h')(X:aH (bQ env) own H h YD H' h')(F:FO YC env own h loc)(F':FO YC env YD h' loc'):bF prog w YC T fr hd d A YD H' h':=
 ⟨I.ao,I.ff.keepF X F F',I.hk.keep X.exc,O⟩
theorem Ok.other{own:ak}{H:MH}{h h':Heap}{u:Addr}{ou:Obj}(O:Ok prog w T YC own H h)(eu:h.get? u=some ou)(hs:Heap.SameBut u h h')(hu:own u=none)(h0:YC.get? u=none)(nt: ¬gP ou)(hh:∃ou',h'.get? u=some ou'){F:Addr→Prop}(hF:F u):
  Ok prog w T YC own H h'∧aH F own H h own H h':=by
 have ne:∀x b,own x=some b→x≠u:=fun x b n e=>by rw [e,hu] at n;exact aG n
 have tk:dM own h own h':=fun x o e n c=>⟨n,(hs.2 x (fun z=>by subst z;rw [eu] at e;obtain rfl:=Option.some.inj e;exact nt c)).trans e⟩
 refine ⟨⟨fun x o e=>(hs.2 x (fun z=>by subst z;rw [h0] at e;exact aG e)).trans (O.base x o e),O.old,fun x o e=> ?_⟩,fun zz zz zz=>rfl,fun x o e n f=>⟨o.slots,(hs.2 x (fun z=>f (z▸hF))).trans e, .inr rfl⟩,fun x o e n c=>(tk x o e n c).2,fun x o e=> ?_,fun zz z=>z,fun x ⟨c,fs,e⟩ ⟨o,vs,t,q1,q2,q3⟩=>⟨o,vs,t,(hs.2 x (ne x _ (O.rep x _ e).1)).trans q1,q2,q3⟩⟩
 ·obtain ⟨r1,r2⟩:=O.rep x o e
  exact ⟨r1,r2.keep r1 tk fun y oy ey eo=>⟨(hs.2 y (ne y _ eo)).trans ey,eo⟩⟩
 ·by_cases q:x=u
  ·subst q;exact hh
  ·exact ⟨o,(hs.2 x q).trans e⟩
theorem qy{M:Model}{A:Around}{env:Env}{sc:SC}(he:cj env sc){x:String}(hl:sc.lookup (nm x)=some .local){own:ak}{H:MH}{s:Shared}{loc:Loc}
  (O:Ok prog w T YC own H s.heap) (F:FO YC env own s.heap loc) {v:V} {val:Value} (r:VR own s.heap v val) {Q':Unit→Shared→Prop} {E':Value→Shared→Prop}
  (hQ:∀h' tk,Ok prog w T YC own H h'→aH (· =env.locals) own H s.heap own H h'→FO YC env own h' (put loc x v)→Heap.SameBut env.locals s.heap h'→Q' () (aF s h' tk)):wpAny M A (storeName env (nm x) val) Q' E' s:=by
 have hp:(env.scope.kind== .class || (env.scope.kind== .module && env.locals !=env.globals))=false:=by rw [he.kind];rfl
 rw [←he.names] at hl
 have hl':env.kindOf (nm x)=some .local:=hl
 rw [storeName_local hl' hp]
 obtain ⟨m,n1,n2⟩:=F.ns
 refine wpAny_nsSet1 n1 fun h' n' sb=> ?_
 obtain ⟨oL,esL,epL,eL,dL,_⟩:=id n1
 obtain ⟨oL',_,_,eL',_⟩:=id n'
 have nt: ¬gP oL:=fun ⟨_,_,_,z⟩=>by rw [dL] at z;injection z
 obtain ⟨O',X'⟩:=O.other eL sb F.ownL F.oldL nt ⟨_,eL'⟩ (F:=(· =env.locals)) rfl
 refine hQ h' _ O' X' ⟨F.ownL,F.oldL,⟨_,n',fun y u e k hz=> ?_⟩,fun y k=> ?_,F.apart⟩ sb
 ·rw [cD] at e
  by_cases q:x=y
  ·subst q;rw [if_pos rfl] at e;obtain rfl:=Option.some.inj e
   exact ⟨val,if_pos rfl,r.keep X'.tup⟩
  ·rw [if_neg q] at e
   obtain ⟨u',a,b⟩:=n2 y u e k hz
   exact ⟨u',(if_neg fun z=>q (lu z).symm).trans a,b.keep X'.tup⟩
 ·obtain ⟨c,o,vo,q1,q2,q3,q4,q6,q7⟩:=F.cell y k
  have hne:c≠env.locals:=fun z=>by rw [z,eL] at q4;obtain rfl:=Option.some.inj q4;rw [dL] at q6;injection q6
  refine ⟨c,o,vo,q1,q2,q3,(sb.2 c hne).trans q4,q6,fun z u e g=> ?_⟩
  rw [cD] at g
  by_cases q:x=z
  ·subst q;subst e;rw [hl'] at k;cases k
  ·rw [if_neg q] at g
   obtain ⟨u',a,b⟩:=q7 z u e g
   exact ⟨u',a,b.keep X'.tup⟩
theorem oK{M:Model}{A:Around}{env:Env}{sc:SC}(he:cj env sc){x:String}(hl:sc.lookup (nm x)=some .local∨sc.lookup (nm x)=some .cell){own:ak}{H:MH}{s:Shared}{loc:Loc}
  (O:Ok prog w T YC own H s.heap) (F:FO YC env own s.heap loc) {v:V} {val:Value} (r:VR own s.heap v val) {Q':Unit→Shared→Prop} {E':Value→Shared→Prop}
  (hQ:∀h' tk,Ok prog w T YC own H h'→aH (bQ env) own H s.heap own H h'→FO YC env own h' (put loc x v)→Q' () (aF s h' tk)):wpAny M A (storeName env (nm x) val) Q' E' s:=by
 rw [←he.names] at hl
 rcases hl with hl | hl
 ·exact qy he (by rw [←he.names];exact hl) O F r fun h' tk O' X' F' zz=>hQ h' tk O' (X'.mono fun zz z=> .inl z) F'
 ·have hl':env.kindOf (nm x)=some .cell:=hl
  obtain ⟨c,o,vo,q1,q2,q3,q4,q6,q7⟩:=F.cell (nm x) hl'
  refine wpAny_storeName_cell he.kind hl' q1 ⟨o,q4,q6⟩ fun h' i' sb=> ?_
  obtain ⟨o',e',d'⟩:=i'
  have nt: ¬gP o:=fun ⟨_,_,_,z⟩=>by rw [q6] at z;injection z
  obtain ⟨O',X'⟩:=O.other q4 sb q2 q3 nt ⟨_,e'⟩ (F:=bQ env) (.inr ⟨_,hl',q1⟩)
  obtain ⟨m,n1,n2⟩:=F.ns
  obtain ⟨oL,esL,epL,eL,dL,_⟩:=id n1
  have hne:env.locals≠c:=fun z=>by rw [z,q4] at eL;obtain rfl:=Option.some.inj eL;rw [dL] at q6;injection q6
  refine hQ h' _ O' X' ⟨F.ownL,F.oldL,⟨m,n1.sameBut sb hne,fun y u e k hz=> ?_⟩,fun y k=> ?_,F.apart⟩
  ·rw [cD] at e
   by_cases q:x=y
   ·subst q;rw [hl'] at k;cases k
   ·rw [if_neg q] at e
    obtain ⟨u',a,b⟩:=n2 y u e k hz
    exact ⟨u',a,b.keep X'.tup⟩
  ·by_cases q:y=nm x
   ·subst q
    refine ⟨c,o',some val,q1,q2,q3,e',d',fun z u e g=> ?_⟩
    rw [cD,if_pos (lu e)] at g
    obtain rfl:=Option.some.inj g
    exact ⟨val,rfl,r.keep X'.tup⟩
   ·obtain ⟨c2,o2,vo2,w1,w2,w3,w4,w6,w7⟩:=F.cell y k
    have hne:c2≠c:=fun z=>q (F.apart _ _ c (z▸w1) q1)
    refine ⟨c2,o2,vo2,w1,w2,w3,(sb.2 c2 hne).trans w4,w6,fun z u e g=> ?_⟩
    rw [cD,if_neg fun a=>q (by rw [e,a])] at g
    obtain ⟨u',a,b⟩:=w7 z u e g
    exact ⟨u',a,b.keep X'.tup⟩
end
section
variable{prog:Program}{w:World}{YC:Heap}{K:Frag}{T:Tab}{A:Around}{own:ak}{H:MH}{E:Value→Shared→Prop}{s:Shared}
theorem cQ.obj{own:ak}{h:Heap}{it:Addr}{rng:Bool}{v:V}{xs:List V}{i:Nat}(x:cQ own h it rng v xs i):∃o,h.get? it=some o∧ ¬gP o∧∃fs,o.data= .fields fs:=by
 cases x with
 | list a=>obtain ⟨o,ho,_,hd⟩:=a;exact ⟨o,ho,(fun ⟨_,_,_,z⟩=>by rw [hd] at z;injection z),_,hd⟩
 | tup a=>obtain ⟨o,ho,_,hd⟩:=a;exact ⟨o,ho,(fun ⟨_,_,_,z⟩=>by rw [hd] at z;injection z),_,hd⟩
 | rng _ b=>exact ⟨_,b,(fun ⟨_,_,_,z⟩=>by injection z),_,rfl⟩
theorem Ok.but{h h':Heap}{u:Addr}{ou:Obj}(O:Ok prog w T YC own H h)(eu:h.get? u=some ou)(hs:Heap.ExtBut u h h')(hu:own u=none)(h0:YC.get? u=none)(nt: ¬gP ou)(hh:∃ou',h'.get? u=some ou'){F:Addr→Prop}(hF:F u):Ok prog w T YC own H h'∧aH F own H h own H h':=by
 have ne:∀x b,own x=some b→x≠u:=fun x b n e=>by rw [e,hu] at n;exact aG n
 have tk:dM own h own h':=fun x o e n c=>⟨n,hs x o (fun z=>by subst z;rw [eu] at e;obtain rfl:=Option.some.inj e;exact nt c) e⟩
 refine ⟨⟨fun x o e=>hs x o (fun z=>by subst z;rw [h0] at e;exact aG e) (O.base x o e),O.old,fun x o e=> ?_⟩,fun zz zz zz=>rfl,fun x o e n f=>⟨o.slots,hs x o (fun z=>f (z▸hF)) e, .inr rfl⟩,fun x o e n c=>(tk x o e n c).2,fun x o e=> ?_,fun zz z=>z,fun x ⟨c,fs,e⟩ ⟨o,vs,t,q1,q2,q3⟩=>⟨o,vs,t,hs x o (ne x _ (O.rep x _ e).1) q1,q2,q3⟩⟩
 ·obtain ⟨r1,r2⟩:=O.rep x o e
  exact ⟨r1,r2.keep r1 tk fun y oy ey eo=>⟨hs y oy (ne y _ eo) ey,eo⟩⟩
 ·by_cases q:x=u
  ·subst q;exact hh
  ·exact ⟨o,hs x o q e⟩
theorem Ef{hd:Option Nat}(hA:A.handled=hd.map Value.ref)(hk:mL hd H){v:V}{items:List V}{src:MH→Prop}{H0:MH}(hi:fO H0 false v=some (items,src))(hs:src H){it:Addr}(ho:own it=none)(h0:YC.get? it=none):
  ∀(n i:Nat) (s:Shared) (Q:List Value→Shared→Prop),Ok prog w T YC own H s.heap→cQ own s.heap it false v items i→i+n≤items.length→
  (∀h' tk YG,Ok prog w T YC own H h'→aH (· =it) own H s.heap own H h'→cQ own h' it false v items (i+n)→aB own h' ((items.drop i).take n) YG→Q YG (aF s h' tk))→
  wpAny (model prog w) A (draw (.ref it) n) Q E s
 | 0,i,s,Q,O,I,hl,hQ=>by
  show wpAny _ _ (pure []) Q E s
  exact wpAny_pure (hQ s.heap s.toks [] O .refl I (by simp;exact .nil))
 | n+1,i,s,Q,O,I,hl,hQ=>by
  show wpAny _ _ (pyNext (.ref it)>>=_) Q E s
  have hlt:i<items.length:=by omega
  refine wpAny_bind (t6 O (xB hA hk O) hi hs I ho (fun x val h' tk e r I' sb=> ?_) fun e=> ?_)
  ·obtain ⟨o,eo,nt,_⟩:=I.obj
   obtain ⟨o',eo',_⟩:=I'.obj
   obtain ⟨O1,X1⟩:=O.other eo sb ho h0 nt ⟨o',eo'⟩ (F:=(· =it)) rfl
   refine wpAny_bind (wpAny_holding (Ef hA hk hi hs ho h0 n (i+1) _ _ O1 I' (by omega) fun h2 tk2 YG O2 X2 I2 r2=>wpAny_pure ?_))
   have e':items.drop i=x::items.drop (i+1):=by
    rw [List.getElem?_eq_some_iff] at e
    obtain ⟨z1,z2⟩:=e
    rw [List.drop_eq_getElem_cons z1,z2]
   refine hQ h2 tk2 _ O2 (X1.trans X2) (by rw [show i+(n+1)=i+1+n by omega];exact I2) ?_
   rw [e',List.take_succ_cons]
   exact .cons (r.keep X2.tup) r2
  ·rw [List.getElem?_eq_none_iff] at e;omega
theorem QF{v:V}{val:Value}{items:List V}{src:MH→Prop}(O:Ok prog w T YC own H s.heap)(hi:fO H false v=some (items,src))(r:VR own s.heap v val){Q:Bool→Shared→Prop}(hQ:Q false s):wpAny (model prog w) A (notIterableAtAll val) Q E s:=by
 unfold notIterableAtAll
 refine xd hi (fun a hv hx zz=> ?_) fun hv zz=> ?_
 ·subst hv
  refine VR.k_ref r (aU.k_list (O.rep a _ hx).2 fun zz zz q1 q2=> ?_)
  have isl:s.heap.IsList a _:=⟨_,q1,rfl,_,rfl⟩
  exact wpAny_bind (wpAny_specialOf isl.typeIs slot_list_iter.lookup (wpAny_pure hQ))
 ·subst hv
  refine VR.k_tup r fun t vs n o1 t1 rr=> ?_
  have ist:s.heap.IsTuple t vs:=⟨_,t1,rfl,_,rfl⟩
  exact wpAny_bind (wpAny_specialOf ist.typeIs F.slot_tuple_iter.lookup (wpAny_pure hQ))
theorem Eg{hd:Option Nat}(hA:A.handled=hd.map Value.ref)(hk:mL hd H)(O:Ok prog w T YC own H s.heap){v:V}{val:Value}{items:List V}{src:MH→Prop}(hi:fO H false v=some (items,src))(hs:src H)(r:VR own s.heap v val){n:Nat}(hn:n=items.length){Q:List Value→Shared→Prop}
  (hQ:∀YD h' tk YG,Ok prog w T YC YD H h'→aH aV own H s.heap YD H h'→aB YD h' items YG→Q YG (aF s h' tk)):wpAny (model prog w) A (unpackItems val n none) Q E s:=by
 subst hn
 unfold unpackItems
 refine wpAny_bind (QF O hi r ?_)
 simp only [Bool.false_eq_true,if_false]
 refine wpAny_bind (wpAny_holding (Ed O hi r fun YF h1 O1 X1 I1 fU=> ?_))
 have h0:YC.get? s.heap.objs.size=none:=O.none_of (Nat.le_refl _)
 refine wpAny_bind (wpAny_holding (Ef hA hk hi hs fU h0 items.length 0 (aF s h1 s.toks) _ O1 I1 (by omega) fun h2 tk2 YG O2 X2 I2 r2=> ?_))
 have e2:(items.drop 0).take items.length=items:=by simp
 rw [e2] at r2
 have hlen:=r2.length
 rw [if_neg (by omega)]
 rw [Nat.zero_add] at I2
 refine wpAny_bind (wpAny_holding (t6 O2 (xB hA hk O2) hi hs I2 fU (fun x val h' tk e=> ?_) fun zz h3 eb hh=> ?_))
 ·rw [List.getElem?_eq_none (Nat.le_refl _)] at e;exact aG e
 obtain ⟨o,eo,nt,_⟩:=I2.obj
 obtain ⟨O3,X3⟩:=O2.but eo eb fU h0 nt hh (F:=(· =s.heap.objs.size)) rfl
 simp only [Option.isSome_none,Bool.false_eq_true,if_false]
 refine wpAny_pure (hQ YF h3 tk2 YG O3 ((X1.trans_new X2 ?_).trans_new X3 ?_) (r2.keep X3.tup))
 ·rintro a rfl;exact mQ
 ·rintro a rfl;exact mQ
end
section
variable{prog:Program}{w:World}{YC:Heap}{K:Frag}{T:Tab}{A:Around}{own:ak}{H:MH}{E':Value→Shared→Prop}{s:Shared}
theorem QG{l:Addr}{items:Array Value}{n:Nat}{k:Int}{t:Tok}{v:Value}{Q:Unit→Shared→Prop}(hl:IsL s.heap l items n)(h0:0≤k)(hfit:k<2 ^ 63)(hn:k<items.size)
  (hQ:∀h' n',IsL h' l (items.setIfInBounds k.toNat v) n'→Heap.SameBut l s.heap h'→Q () (aF s h' s.toks)):wpAny (model prog w) A (setItem (.ref l) (.int k t) v) Q E' s:=by
 have il:s.heap.IsList l items:=⟨_,hl,rfl,n,rfl⟩
 unfold setItem
 try with_reducible refine wpAny_holding ?_
 first | refine wpAny_bind (wpAny_pure ?_) | skip
 refine wpAny_bind (wpAny_sequenceKey il.typeIs (by decide) ?_)
 refine wpAny_bind (wpAny_callSpecial?_slot (name:=Str.ofString "__setitem__") il.typeIs slot_list_setitem
  (wpAny_call_entry slot_list_setitem il.typeIs entry_list_setitem ?_ (args_list_setitem _ _ _)))
 show wpAny _ _ (Builtin.List.listSubscript? (.int k t)>>=_) _ _ s
 refine wpAny_bind (wpAny_listSubscript_int (fitsIndex_of h0 hfit) ?_)
 clear hfit
 obtain ⟨j,rfl⟩:=Int.eq_ofNat_of_zero_le h0
 have hj:j<items.size:=by omega
 have hx':items[j]? =some items[j]:=Array.getElem?_eq_getElem hj
 show wpAny _ _ ((seqItemAt l j>>=fun r=>pure (r.map (j, ·)))>>=_) _ _ s
 refine wpAny_bind (wpAny_bind (wpAny_seqItemAt hl rfl (wpAny_pure ?_)))
 rw [hx']
 show wpAny _ _ (setSeqItemAt l j v>>=_) _ _ s
 refine wpAny_bind (wpAny_setSeqItemAt hl rfl ?_)
 have fin:=hQ _ _ (IsL.update hl (·.setIfInBounds j v)) (Heap.SameBut.update ..)
 first
  | exact wpAny_bind (wpAny_pure (wpAny_pure ⟨.none,rfl,wpAny_pure fin⟩))
  | exact wpAny_pure ⟨.none,rfl,wpAny_pure fin⟩
theorem QH{a i v:V}{va vi val:Value}{H':MH}{Q':Unit→Shared→Prop}(hs:vV H a i v=some H')(O:Ok prog w T YC own H s.heap)(ra:VR own s.heap a va)(ri:VR own s.heap i vi)(rv:VR own s.heap v val)(hu:A.units+20<cLine)
  (kq:∀h' tk,Ok prog w T YC own H' h'→aH aV own H s.heap own H' h'→Q' () (aF s h' tk)):wpAny (model prog w) A (setItem va vi val) Q' E' s:=by
 refine cg hs fun r hr h1=>cg h1 fun ob hH h2=> ?_
 obtain rfl:=dD hr
 clear hs h1 hr
 refine VR.k_ref ra ?_
 induction ob using Mine.O.casesOn with
 | list xs=>
  refine cg h2 fun k hk h3=> ?_
  obtain rfl:=dN hk
  split at h3
  case isFalse=>exact aG h3
  rename_i hb
  obtain rfl:=Option.some.inj h3
  refine VR.k_int ri fun t=> ?_
  refine aU.k_listN (O.rep _ _ hH).2 fun v1 n1 l1 rr e1=> ?_
  have hsz:bh=16777216:=rfl
  obtain ⟨b1,b2,b3⟩:=hb
  refine QG l1 b1 (by omega) (by omega) fun h' n' q1 q2=> ?_
  obtain ⟨O',X'⟩:=O.updL hH (ys:=xs.set k.toNat v) q1 q2 (by
   rw [Array.toList_setIfInBounds];exact rr.set rv _)
  exact kq _ _ O' X'
 | dict es=>
  obtain ⟨hok,h3⟩:=fV h2
  split at h3
  case isFalse=>exact aG h3
  rename_i hlen
  obtain rfl:=Option.some.inj h3
  have R:=(O.rep _ _ hH).2
  induction i using V.casesOn with
  | str k=>
   refine VR.k_str ri fun t=> ?_
   obtain ⟨kvs,q1,q2,q3⟩:=R.dict_str hok
   have hn:(kvs.map (·.1)).Nodup:=by obtain ⟨_,_,_,_,_,_,_,_,z⟩:=id q1;exact z
   have hl:kvs.length=es.length:=by have:=congrArg List.length q3.1;simpa using this.symm
   refine wpAny_setItem_pairs (knd:=strKind prog w) (k:=aJ k) (strKind_is prog w (aJ k) t) q1 (fun h' d' sb=> ?_) (by rw [←gB];have:bh=16777216:=rfl;omega)
   have q4:=q3.store k rv hn
   obtain ⟨O',X'⟩:=O.updD hH (es':=bC es (.str k) v) sb (fun tk=> .dictS d' q2 (q4.keep tk).1 (q4.keep tk).2) (by obtain ⟨o,_,_,z,_⟩:=id d';exact ⟨o,z⟩)
   exact kq _ _ O' X'
  | tup k=>
   obtain ⟨ad,rfl⟩:=ri.e_tup
   obtain ⟨xs,q1,q2,q3⟩:=R.dict_tup hok
   obtain ⟨ks,rfl,hkey⟩:=xu (prog:=prog) (w:=w) (Bool.and_eq_true_iff.1 hok).1 ri
   have hl:xs.length=es.length:=by have:=congrArg List.length q3.keys;simpa using this.symm
   have hn:(xs.map (·.1)).Nodup:=by obtain ⟨_,_,_,_,_,_,_,_,z⟩:=id q1;exact z
   refine wpAny_setItem_heap (knd:=tupleKind (oF prog w)) (tupleKind_room_in1 (by omega)) hkey q1 (fun h' d' sb=> ?_) (by rw [←gB];have:bh=16777216:=rfl;omega)
   have q4:KT own s.heap (bC es (.tup (ks.map SB.val)) v) (storedH xs ks ad val):=by
    induction z:atKey xs ks using Option.casesOn with
    | none=>rw [storedH_new z];exact q3.put_new rv ri z
    | some p=>rw [storedH_old z];exact q3.put_old rv hn ks (by rw [z];rfl)
   obtain ⟨o,en,ep,z1,z2,z3,z4,z5,z6⟩:=id d'
   obtain ⟨O',X'⟩:=O.updD hH (es':=bC es (.tup (ks.map SB.val)) v) sb (fun tk=> .dictT z1 z2 z3 z4 z6 q2 (q4.keep tk).keys (q4.keep tk).kr (q4.keep tk).vr) ⟨o,z1⟩
   exact kq _ _ O' X'
  | _=>exact nomatch hok
 | _=>exact aG h2
end
noncomputable def lC(sc:SC)(x:String):Prop:=sc.lookup (nm x)=some .local∨sc.lookup (nm x)=some .cell
inductive mR(sc:SC):List Expr→List String→Prop
 | nil:mR sc [] []
 | cons {x p es xs}:lC sc x→mR sc es xs→mR sc (.Name (nm x) p::es) (x::xs)
inductive qz(own:ak)(h:Heap):Mine.Flow→PySem.Flow→Prop
 | next:qz own h .next .next
 | cont:qz own h .cont .cont
 | ret {v val}:VR own h v val→qz own h (.ret v) (.ret val)
section
variable(prog:Program)(w:World)(YC:Heap)(T:Tab)
noncomputable def KS(env:Env)(own:ak)(H:MH)(s:Shared)(Q:QS)(Q':PySem.Flow→Shared→Prop):Prop:=
 ∀fl loc' H' YD h' tk flow,Q fl loc' H'→Ok prog w T YC YD H' h'→aH (bQ env) own H s.heap YD H' h'→FO YC env YD h' loc'→qz YD h' fl flow→Q' flow (aF s h' tk)
noncomputable def KL(env:Env)(own:ak)(H:MH)(s:Shared)(Q:Loc→MH→Prop)(Q':Unit→Shared→Prop):Prop:=
 ∀loc' H' YD h' tk,Q loc' H'→Ok prog w T YC YD H' h'→aH (bQ env) own H s.heap YD H' h'→FO YC env YD h' loc'→Q' () (aF s h' tk)
noncomputable def KX(env:Env)(own:ak)(H:MH)(s:Shared)(E:ES)(E':Value→Shared→Prop):Prop:=
 ∀a loc' H' YD h' tk,E a loc' H'→c7 H' a→Ok prog w T YC YD H' h'→aH (bQ env) own H s.heap YD H' h'→FO YC env YD h' loc'→E' (.ref a) (aF s h' tk)
noncomputable def ST(sc:SC)(e:Expr)(t:Tgt):Prop:=∀(env:Env) (C:aO) (d:Nat) (hd:Option Nat) (fr:List Env) (loc:Loc) (H:MH) (v:V) (Q:Loc→MH→Prop) (E:E1),cj env sc→eZ prog w YC T C d→
 wt T C hd t v loc H Q E→∀(A:Around) (own:ak) (s:Shared) (val:Value) (Q':Unit→Shared→Prop) (E':Value→Shared→Prop),
 bF prog w YC T fr hd d A own H s.heap→FO YC env own s.heap loc→VR own s.heap v val→
 KL prog w YC T env own H s Q Q'→KE prog w YC T own H s E E'→wpAny (model prog w) A (assign e env val) Q' E' s
noncomputable def SS(sc:SC)(st:Stmt)(x:St):Prop:=∀(env:Env) (C:aO) (d N:Nat) (hd:Option Nat) (fr:List Env) (loc:Loc) (H:MH) (Q:QS) (E:ES),cj env sc→eZ prog w YC T C d→
 (∃outer,fr=env::outer)→ws T C N hd x loc H Q E→∀(A:Around) (own:ak) (s:Shared) (Q':PySem.Flow→Shared→Prop) (E':Value→Shared→Prop),
 bF prog w YC T fr hd d A own H s.heap→FO YC env own s.heap loc→
 KS prog w YC T env own H s Q Q'→KX prog w YC T env own H s E E'→wpAny (model prog w) A (exec st env) Q' E' s
noncomputable def gQ(sc:SC)(sts:List Stmt)(xs:List St):Prop:=∀(env:Env) (C:aO) (d N:Nat) (hd:Option Nat) (fr:List Env) (loc:Loc) (H:MH) (Q:QS) (E:ES),cj env sc→eZ prog w YC T C d→
 (∃outer,fr=env::outer)→b8 T C N hd xs loc H Q E→∀(A:Around) (own:ak) (s:Shared) (Q':PySem.Flow→Shared→Prop) (E':Value→Shared→Prop),
 bF prog w YC T fr hd d A own H s.heap→FO YC env own s.heap loc→
 KS prog w YC T env own H s Q Q'→KX prog w YC T env own H s E E'→wpAny (model prog w) A (execs sts env) Q' E' s
end
section
variable{prog:Program}{w:World}{YC:Heap}{K:Frag}{T:Tab}
theorem KL.step{env:Env}{own YD:ak}{H H':MH}{s:Shared}{h':Heap}{tk:Nat}{Q:Loc→MH→Prop}{Q':Unit→Shared→Prop}(k:KL prog w YC T env own H s Q Q')(X:aH (bQ env) own H s.heap YD H' h'):
  KL prog w YC T env YD H' (aF s h' tk) Q Q':=fun l H2 own2 h2 tk2 q O X2 F=>k l H2 own2 h2 tk2 q O (X.trans X2) F
theorem KS.step{env:Env}{own YD:ak}{H H':MH}{s:Shared}{h':Heap}{tk:Nat}{Q:QS}{Q':PySem.Flow→Shared→Prop}(k:KS prog w YC T env own H s Q Q')(X:aH (bQ env) own H s.heap YD H' h'):
  KS prog w YC T env YD H' (aF s h' tk) Q Q':=fun fl l H2 own2 h2 tk2 fv q O X2 F r=>k fl l H2 own2 h2 tk2 fv q O (X.trans X2) F r
theorem KX.step{env:Env}{own YD:ak}{H H':MH}{s:Shared}{h':Heap}{tk:Nat}{E:ES}{E':Value→Shared→Prop}(k:KX prog w YC T env own H s E E')(X:aH (bQ env) own H s.heap YD H' h'):
  KX prog w YC T env YD H' (aF s h' tk) E E':=fun a l H2 own2 h2 tk2 q i O X2 F=>k a l H2 own2 h2 tk2 q i O (X.trans X2) F
theorem KX.at{env:Env}{own:ak}{H:MH}{s:Shared}{loc:Loc}{E:ES}{E':Value→Shared→Prop}(k:KX prog w YC T env own H s E E')(F:FO YC env own s.heap loc):KE prog w YC T own H s (fun a H'=>E a loc H') E':=
 fun a H' YD h' tk q i O X=>k a loc H' YD h' tk q i O X.any (F.keep X)
theorem Yt{M:Model}{A:Around}{s:Shared}{env:Env}{x:Str}{v:Value}{Q:Unit→Shared→Prop}{E:Value→Shared→Prop}(h:wpAny M A (storeName env x v) Q E s):wpAny M A (bindName env x v) Q E s:=wpAny_bindName h
theorem QJ{sc:SC}{x:String}{p:Pos}(hl:lC sc x):ST prog w YC T sc (.Name (nm x) p) (.name x):=by
 intro env C d hd fr loc H v Q E he hc hw A own s val Q' E' I F r kl ke
 unfold wt at hw
 exact wpAny_assign_Name (oK he hl I.ok F r fun h' tk O' X' F'=>kl _ _ _ _ _ hw O' X' F')
theorem QK(G:Gd prog w YC K T){sc:SC}{o:Expr}{n:String}{p:Pos}{x:X}(ho:SE prog w YC T sc o x):ST prog w YC T sc (.Attribute o (nm n) p) (.attr x n):=by
 intro env C d hd fr loc H v Q E he hc hw A own s val Q' E' I F r kl ke
 unfold wt at hw
 rw [arm_assign_Attribute]
 refine wpAny_bind (wpAny_holding (ho env C d hd fr loc H _ E he hc hw A own s _ E' I F (fun ov H1 YF h1 tk1 oval hw1 O1 X1 r1=> ?_) ke))
 refine aa.el hw1 fun H2 hset hw2=> ?_
 refine wpAny_bind (wpAny_standAt (wpAny_bind (wpAny_holding (DR G hset O1 r1 (r.keep X1.tup) fun own2 h2 tk2 O2 X2=> ?_))))
 exact wpAny_release (kl _ _ _ _ _ hw2 O2 (X1.trans X2).any (F.keep (X1.trans X2)))
theorem QM{sc:SC}{o i:Expr}{p:Pos}{x y:X}(ho:SE prog w YC T sc o x)(hi:SE prog w YC T sc i y):ST prog w YC T sc (.Subscript o i p) (.sub x y):=by
 intro env C d hd fr loc H v Q E he hc hw A own s val Q' E' I F r kl ke
 unfold wt at hw
 rw [arm_assign_Subscript]
 refine wpAny_bind (wpAny_holding (ho env C d hd fr loc H _ E he hc hw A own s _ E' I F (fun ov H1 YF h1 tk1 oval hw1 O1 X1 r1=> ?_) ke))
 refine wpAny_bind (wpAny_holding (hi env C d hd fr loc H1 _ E he hc hw1 A YF _ _ E' (I.step O1 X1) (F.keep X1) (fun iv H2 own2 h2 tk2 ival hw2 O2 X2 r2=> ?_) (ke.step X1)))
 refine aa.el hw2 fun H3 hset hw3=> ?_
 refine wpAny_bind (wpAny_standAt (wpAny_bind (wpAny_holding (QH hset O2 (r1.keep X2.tup) r2 ((r.keep X1.tup).keep X2.tup) (I.ao.u (by decide)) fun h3 tk3 O3 X3=> ?_))))
 have X:=(X1.trans X2).trans X3
 exact wpAny_release (kl _ _ _ _ _ hw3 O3 X.any (F.keep X))
theorem QQ{sc:SC}{es:List Expr}{xs:List String}(t:mR sc es xs){env:Env}:(assignEach es env).length=xs.length∧(assignEach es env).findIdx? (·.1)=none:=by
 induction t with
 | nil=>exact ⟨rfl,rfl⟩
 | cons _ _ ih=>exact ⟨by rw [show assignEach (.Name _ _::_) env=(false,assign (.Name _ _) env)::assignEach _ env from rfl,List.length_cons,ih.1];rfl,by
   rw [show assignEach (.Name _ _::_) env=(false,assign (.Name _ _) env)::assignEach _ env from rfl,List.findIdx?_cons,ih.2];rfl⟩
theorem QR{M:Model}{A:Around}{E':Value→Shared→Prop}{env:Env}{sc:SC}(he:cj env sc){H:MH}{own:ak}{es:List Expr}{xs:List String}(t:mR sc es xs):∀{vs:List V} {YG:List Value} {s:Shared} {loc:Loc} {Q':Unit→Shared→Prop},
  Ok prog w T YC own H s.heap→FO YC env own s.heap loc→aB own s.heap vs YG→vs.length=xs.length→
  (∀h' tk,Ok prog w T YC own H h'→aH (bQ env) own H s.heap own H h'→FO YC env own h' ((xs.zip vs).foldl (fun l p=>put l p.1 p.2) loc)→Q' () (aF s h' tk))→
  wpAny M A (assignInOrder ((assignEach es env).map (·.2)) YG) Q' E' s:=by
 induction t with
 | nil=>
  intro vs YG s loc Q' O F r hl hQ
  induction vs using List.casesOn with
  | cons=>cases hl
  | nil=>cases r;exact wpAny_pure (hQ _ s.toks O .refl F)
 | @cons x p es xs hx t ih=>
  intro vs YG s loc Q' O F r hl hQ
  induction vs using List.casesOn with
  | nil=>cases hl
  | cons v vs=>
   refine aB.k_cons r fun zz zz a r=> ?_
   show wpAny _ _ (do holding _ (assign (.Name (nm x) p) env _);assignInOrder _ _) _ _ s
   refine wpAny_bind (wpAny_holding (wpAny_assign_Name (oK he hx O F a fun h1 tk1 O1 X1 F1=> ?_)))
   refine ih O1 F1 (r.keep X1.tup) (by simpa using hl) fun h2 tk2 O2 X2 F2=> ?_
   exact hQ h2 tk2 O2 (X1.trans X2) F2
theorem Eh{v:V}{xs:List String}{H:MH}{loc:Loc}{Q:Loc→MH→Prop}(hw:aa (z7 H v) fun vs=>vs.length=xs.length∧Q (nQ xs vs loc) H):
  ∃vs src,fO H false v=some (vs,src)∧src H∧vs.length=xs.length∧Q (nQ xs vs loc) H:=by
 refine aa.el hw fun vs hv h=> ?_
 induction v using V.casesOn with
 | tup us=>cases hv;exact ⟨vs,_,rfl,trivial,h.1,h.2⟩
 | ref a=>exact ⟨vs,fun H'=>H' a=some (.list vs),by show (bN (H a)).map _=_;rw [show bN (H a)=some vs from hv];rfl,dO hv,h.1,h.2⟩
 | _=>exact aG hv
theorem QT{sc:SC}{es:List Expr}{k:Nat}{p:Pos}{xs:List String}(t:mR sc es xs):ST prog w YC T sc (.Tuple es k p) (.names xs):=by
 intro env C d hd fr loc H v Q E he hc hw A own s val Q' E' I F r kl ke
 obtain ⟨n1,n2⟩:=QQ t (env:=env)
 obtain ⟨vs,src,hi,hs,hl,hq⟩:=Eh hw
 rw [arm_assign_Tuple]
 refine wpAny_bind (wpAny_standAt ?_)
 unfold unpack
 rw [n1,n2]
 refine wpAny_bind (wpAny_holding (Eg I.ao.handled I.hk I.ok hi hs r hl.symm fun YF h1 tk1 YG O1 X1 r1=> ?_))
 exact QR he t O1 (F.keep X1) r1 hl fun h2 tk2 O2 X2 F2=>kl _ _ _ _ _ hq O2 (X1.any.trans X2) F2
end
theorem Ei{it:Expr}(hn:gq it=true){env:Env}:∀x,foldedSetIterable it env x=pure x:=by
 intro x
 induction it using PySem.Expr.casesOn<;>first | rfl | exact absurd hn Bool.false_ne_true
theorem xC{env:Env}(f:Str×NameKind→List (Str×Addr)→Sem (ForInStep (List (Str×Addr))))
  (hf:∀name kind r,f (name,kind) r=if kind== .free then (do let c←cellOf env name;pure (.yield ((name,c)::r))) else pure (.yield r)):
  ∀(names:List (Str×NameKind)) (acc:List (Str×Addr)),(∀y∈names,y.2= .free→∃c,env.cells.lookup y.1=some c)→
  ∃cl,(forIn names acc f:Sem _)=pure cl∧(∀y c,cl.lookup y=some c→acc.lookup y=some c∨env.cells.lookup y=some c)∧(∀y,((y,NameKind.free)∈names∨(acc.lookup y).isSome=true)→(cl.lookup y).isSome=true)
 | [],acc,_=>⟨acc,by rw [List.forIn_nil],fun y c e=> .inl e,fun y e=>e.elim (fun z=>nomatch z) id⟩
 | (n,k)::r,acc,h=>by
  rw [List.forIn_cons,hf]
  by_cases hk:k= .free
  ·subst hk
   obtain ⟨c,hc⟩:=h (n, .free) List.mem_cons_self rfl
   have hc':cellOf env n=pure c:=by unfold cellOf;dsimp only at hc;rw [hc]
   obtain ⟨cl,e1,e2,e3⟩:=xC f hf r ((n,c)::acc) fun y hy=>h y (List.mem_cons_of_mem _ hy)
   refine ⟨cl, ?_,fun y c' e=> ?_,fun y e=> ?_⟩
   ·rw [if_pos (by rfl),hc'];exact e1
   ·rcases e2 y c' e with q | q
    ·rw [List.lookup_cons] at q
     induction hb:y==n using Bool.casesOn with
     | true=>rw [hb] at q;obtain rfl:=Option.some.inj q;rw [beq_iff_eq.mp hb];exact .inr hc
     | false=>rw [hb] at q;exact .inl q
    ·exact .inr q
   ·refine e3 y ?_
    rcases e with e | e
    ·rcases List.mem_cons.mp e with e | e
     ·cases e;right;simp
     ·exact .inl e
    ·right
     rw [List.lookup_cons]
     induction y==n using Bool.casesOn<;>simp [e]
  ·have hb:(k==NameKind.free)=false:=by simpa using hk
   obtain ⟨cl,e1,e2,e3⟩:=xC f hf r acc fun y hy=>h y (List.mem_cons_of_mem _ hy)
   refine ⟨cl, ?_,e2,fun y e=>e3 y ?_⟩
   ·rw [if_neg (by rw [hb];exact Bool.false_ne_true)];exact e1
   ·rcases e with e | e
    ·rcases List.mem_cons.mp e with e | e
     ·cases e;exact absurd rfl hk
     ·exact .inl e
    ·exact .inr e
theorem QV{scope:Scope}{env:Env}(h:∀y∈scope.names,y.2= .free→∃c,env.cells.lookup y.1=some c):
  ∃cl,closureFor scope env=pure cl∧(∀y c,cl.lookup y=some c→env.cells.lookup y=some c)∧(∀y,(y,NameKind.free)∈scope.names→(cl.lookup y).isSome=true):=by
 obtain ⟨cl,e1,e2,e3⟩:=xC (env:=env) (fun x r=>match x with | (name,kind)=>if kind== .free then (do let c←cellOf env name;pure (.yield ((name,c)::r))) else pure (.yield r)) (fun zz zz zz=>rfl) scope.names [] h
 refine ⟨cl, ?_,fun y c e=>(e2 y c e).elim (fun z=>nomatch z) id,fun y e=>e3 y (.inl e)⟩
 unfold closureFor
 exact (congrArg (fun m:Sem (List (Str×Addr))=>m>>=fun x=>pure x) e1).trans rfl
theorem QX(scope:Scope)(env:Env)(hk:env.scope.kind= .function):(relabel scope env).names=cZ env.scope.names scope.names:=by
 unfold relabel cZ
 apply List.map_congr_left
 rintro ⟨n,k⟩ _
 rw [hk]
 have e1:(ScopeKind.function==ScopeKind.function)=true:=rfl
 dsimp only
 rw [e1,Bool.and_true]
 rfl
theorem Ej{outer:SC}:∀{names:SC} {y:Str},(∀z∈names,z.2≠ .cell)→(cZ outer names).lookup y=some .cell→(y,NameKind.free)∈names∧outer.lookup y=some .cell
 | [],_,_,e=>nomatch e
 | (n,k)::r,y,h,e=>by
  have ih:=fun q=>Ej (outer:=outer) (names:=r) (y:=y) (fun z hz=>h z (List.mem_cons_of_mem _ hz)) q
  unfold cZ at e ih
  rw [List.map_cons] at e
  by_cases q:(k==NameKind.free && outer.lookup n==some .cell)=true
  ·simp only [q,if_true] at e
   rw [List.lookup_cons] at e
   rw [Bool.and_eq_true] at q
   induction hb:y==n using Bool.casesOn with
   | true=>
    rw [beq_iff_eq.mp hb]
    have hk:k= .free:=by simpa using q.1
    subst hk
    exact ⟨List.mem_cons_self,by simpa using q.2⟩
   | false=>rw [hb] at e;exact ⟨List.mem_cons_of_mem _ (ih e).1,(ih e).2⟩
  ·simp only [q,Bool.false_eq_true,if_false] at e
   rw [List.lookup_cons] at e
   induction hb:y==n using Bool.casesOn with
   | true=>rw [hb] at e;obtain rfl:=Option.some.inj e;exact absurd rfl (h _ List.mem_cons_self)
   | false=>rw [hb] at e;exact ⟨List.mem_cons_of_mem _ (ih e).1,(ih e).2⟩
theorem Ek{outer:SC}:∀{names:SC} {y:Str},(cZ outer names).lookup y=some .local→(y,NameKind.local)∈names
 | [],_,e=>nomatch e
 | (n,k)::r,y,e=>by
  have ih:=fun q=>Ek (outer:=outer) (names:=r) (y:=y) q
  unfold cZ at e ih
  rw [List.map_cons] at e
  by_cases q:(k==NameKind.free && outer.lookup n==some .cell)=true
  ·simp only [q,if_true] at e
   rw [List.lookup_cons] at e
   induction hb:y==n using Bool.casesOn with
   | true=>rw [hb] at e;cases e
   | false=>rw [hb] at e;exact List.mem_cons_of_mem _ (ih e)
  ·simp only [q,Bool.false_eq_true,if_false] at e
   rw [List.lookup_cons] at e
   induction hb:y==n using Bool.casesOn with
   | true=>rw [hb] at e;obtain rfl:=Option.some.inj e;rw [beq_iff_eq.mp hb];exact List.mem_cons_self
   | false=>rw [hb] at e;exact List.mem_cons_of_mem _ (ih e)
theorem FO.congr{YC:Heap}{env:Env}{own:ak}{h:Heap}{loc loc':Loc}(F:FO YC env own h loc)(e:∀y,Mine.get loc' y=Mine.get loc y):FO YC env own h loc':=by
 obtain ⟨m,n1,n2⟩:=F.ns
 refine ⟨F.ownL,F.oldL,⟨m,n1,fun x v q k hz=>n2 x v (by rw [←e];exact q) k hz⟩,fun x k=> ?_,F.apart⟩
 obtain ⟨c,o,vo,q1,q2,q3,q4,q6,q7⟩:=F.cell x k
 exact ⟨c,o,vo,q1,q2,q3,q4,q6,fun y v z g=>q7 y v z (by rw [←e];exact g)⟩
theorem FO.keepG{G:Addr→Prop}{YC:Heap}{env:Env}{own YD:ak}{H H':MH}{h h':Heap}{loc:Loc}(x:FO YC env own h loc)(k:aH G own H h YD H' h')(hL: ¬G env.locals)(hc:∀a,G a→∃o,h.get? a=some o∧∀v,o.data≠ .cell v):FO YC env YD h' loc:=by
 obtain ⟨m,n1,n2⟩:=x.ns
 have sL:∀o,h.get? env.locals=some o→∃sl,h'.get? env.locals=some {o with slots:=sl}:=fun o z=>(k.keep _ o z x.ownL hL).imp fun zz q=>q.1
 refine ⟨?_,x.oldL,⟨m,Ns1.slots n1 sL,fun y v a b hz=> ?_⟩,fun y b=> ?_,x.apart⟩
 ·obtain ⟨o,_,_,z,_⟩:=id n1
  rw [k.same _ o z];exact x.ownL
 ·obtain ⟨val,c,d⟩:=n2 y v a b hz
  exact ⟨val,c,d.keep k.tup⟩
 ·obtain ⟨c,o,vo,q1,q2,q3,q4,q6,q7⟩:=x.cell y b
  obtain ⟨sl,q8,_⟩:=k.keep c o q4 q2 fun g=>by
   obtain ⟨o',z1,z2⟩:=hc c g
   rw [q4] at z1;obtain rfl:=Option.some.inj z1;exact z2 _ q6
  exact ⟨c,_,vo,q1,by rw [k.same c o q4];exact q2,q3,q8,q6,fun z v e g=>by
   obtain ⟨val,r1,r2⟩:=q7 z v e g
   exact ⟨val,r1,r2.keep k.tup⟩⟩
section
variable(prog:Program)(w:World)(YC:Heap)(T:Tab)
inductive dq(sc:SC):List Expr→List X→Prop
 | nil:dq sc [] []
 | cons {e es x xs}:SE prog w YC T sc e x→fc prog w YC T sc e x→fQ e=true→dq sc es xs→dq sc (e::es) (x::xs)
end
section
variable{prog:Program}{w:World}{YC:Heap}{K:Frag}{T:Tab}
theorem dq.sl{sc:SC}{es:List Expr}{xs:List X}(h:dq prog w YC T sc es xs):SL prog w YC T sc es xs:=by
 induction h with
 | nil=>exact Dv
 | cons a _ n _ ih=>exact Dw a n ih
theorem dq.len{sc:SC}{es:List Expr}{xs:List X}(h:dq prog w YC T sc es xs):es.length=xs.length:=by
 induction h with
 | nil=>rfl
 | cons _ _ _ _ ih=>simp [ih]
theorem dq.sb{sc:SC}{es:List Expr}{xs:List X}(h:dq prog w YC T sc es xs):qt prog w YC T sc es xs:=by
 induction h with
 | nil=>exact Oz
 | cons a _ _ r ih=>exact OD a ih r.len
theorem dq.cs{sc:SC}{es:List Expr}{xs:List X}(h:dq prog w YC T sc es xs):qu prog w YC T sc es xs:=by
 induction h with
 | nil=>exact Ow
 | cons _ c _ _ ih=>exact Ox c ih
theorem dq.stars{sc:SC}{es:List Expr}{xs:List X}(h:dq prog w YC T sc es xs):es.all fQ=true:=by
 induction h with
 | nil=>rfl
 | cons _ _ n _ ih=>rw [List.all_cons,n,ih];rfl
theorem El{M:Model}{A:Around}{E':Value→Shared→Prop}{s:Shared}{env:Env}{Q:Bool→Shared→Prop}(h:Q false s):∀(ifs:List Expr),
  wpAny M A (forIn ifs false fun c r=>if r=true then do let ok←isTrue c env (eval c env);pure (ForInStep.yield ok) else pure (ForInStep.yield r)) Q E' s
 | []=>by rw [List.forIn_nil];exact wpAny_pure h
 | c::r=>by
  rw [List.forIn_cons,if_neg Bool.false_ne_true]
  exact wpAny_bind (wpAny_pure (El h r))
theorem QZ{sc:SC}{ifs:List Expr}{xs:List X}(h:dq prog w YC T sc ifs xs):∀(env:Env) (C:aO) (d:Nat) (hd:Option Nat) (fr:List Env) (loc:Loc) (H:MH) (Q:Bool→MH→Prop) (E:E1),cj env sc→eZ prog w YC T C d→
  iT T C hd true xs loc H Q E→∀(A:Around) (own:ak) (s:Shared) (Q':Bool→Shared→Prop) (E':Value→Shared→Prop),
  bF prog w YC T fr hd d A own H s.heap→FO YC env own s.heap loc→
  KQ prog w YC T (fun zz zz a b=>a=b) own H s Q Q'→KE prog w YC T own H s E E'→
  wpAny (model prog w) A (forIn ifs true fun c r=>if r=true then do let ok←isTrue c env (eval c env);pure (ForInStep.yield ok) else pure (ForInStep.yield r)) Q' E' s:=by
 induction h with
 | nil=>
  intro env C d hd fr loc H Q E he hc hw A own s Q' E' I F kq ke
  exact wpAny_tests_nil (kq.now I.ok hw rfl s.toks)
 | cons _ c _ _ ih=>
  intro env C d hd fr loc H Q E he hc hw A own s Q' E' I F kq ke
  rw [List.forIn_cons,if_pos rfl]
  refine wpAny_bind (wpAny_bind (c env C d hd fr loc H _ E he hc hw A own s _ E' I F (fun b H1 YF h1 tk1 b' hw1 O1 X1 r1=> ?_) ke))
  subst r1
  refine wpAny_pure ?_
  induction b using Bool.casesOn with
  | true=>exact ih env C d hd fr loc H1 Q E he hc hw1 A YF _ Q' E' (I.step O1 X1) (F.keep X1) (kq.step X1) (ke.step X1)
  | false=>exact El (kq _ _ _ _ _ _ hw1 O1 X1 rfl) _
end
noncomputable def Em(T:Tab)(C:aO)(hd:Option Nat)(elt:X)(x:String)(ifs:List X)(loc:Loc):V→MH→(Option V→MH→Prop)→Prop:=
 fun w h q=>iT T C hd true ifs (put loc x w) h (sI (fun h2 q2=>we T C hd elt (put loc x w) h2 q2 eG) q) eG
inductive En(prog:Program)(w:World)(YC:Heap)(T:Tab)(src:MH→Prop)(go:List V→List V→MH→Prop)(items:List V)(own0:ak)(Hs:MH)(hs0:Heap)(It D:Addr)(rng:Bool)(v:V)(x:String)(loc:Loc)(cenv:Env)(s:Shared)(k:Nat)(s':Shared):Prop
 | mk (i:Nat) (YD:ak) (H':MH) (h':Heap) (tk:Nat) (acc:List V) (vs:Array Value) (nn:Nat) (loc':Loc):s'=aF s h' tk→k=items.length - i→i≤items.length→go (items.drop i) acc H'→Ok prog w T YC YD H' h'→aH aV own0 Hs hs0 YD H' h'→
   cQ YD h' It rng v items i→YD It=none→YD D=none→IsL h' D vs nn→aB YD h' acc vs.toList→acc.length≤i→FO YC cenv YD h' loc'→(∀y,y≠x→Mine.get loc' y=Mine.get loc y)→En prog w YC T src go items own0 Hs hs0 It D rng v x loc cenv s k s'
theorem Eo{oA oB:ak}{hA hB:Heap}{HA HB:MH}{D:Addr}{vv:Array Value}{n:Nat}(Y:aH aV oA HA hA oB HB hB)(o:oA D=none)(l:IsL hA D vv n):IsL hB D vv n∧oB D=none:=by
 obtain ⟨sl,q1,q2⟩:=Y.keep D _ l o id
 refine ⟨?_,by rw [Y.same D _ l];exact o⟩
 rcases q2 with q2 | q2
 ·obtain ⟨_,_,z⟩:=q2;injection z
 ·subst q2;exact q1
theorem Ep{oA oB:ak}{hA hB:Heap}{HA HB:MH}{It:Addr}{rng:Bool}{v:V}{items:List V}{n:Nat}(Y:aH aV oA HA hA oB HB hB)(o:oA It=none)(j:cQ oA hA It rng v items n):cQ oB hB It rng v items n∧oB It=none:=by
 obtain ⟨ob,eb,_,_⟩:=j.obj
 refine ⟨j.keep Y.tup fun o' eo nf=> ?_,by rw [Y.same It _ eb];exact o⟩
 obtain ⟨sl,q1,q2⟩:=Y.keep It o' eo o id
 rcases q2 with q2 | q2
 ·exact absurd q2 nf
 ·subst q2;exact q1
section
variable{prog:Program}{w:World}{YC:Heap}{K:Frag}{T:Tab}
theorem Q0{sc:SC}{scope:Scope}{pos:Pos}{it elt:Expr}{ifs:List Expr}{x:String}{xp:Pos}{xe:X}{xs:List X}{rng:Bool}
  (hifs:dq prog w YC T sc ifs xs) (helt:SE prog w YC T sc elt xe) (hx:sc.lookup (nm x)=some .local) {cenv:Env} (he:cj cenv sc)
  {C:aO} {d:Nat} (hc:eZ prog w YC T C d) {hd:Option Nat} {fr:List Env} {A:Around} {loc:Loc} {H0:MH} {v:V} {items:List V} {src:MH→Prop} (hi:fO H0 rng v=some (items,src)) (hlen:items.length≤bh) {Qf:List V→MH→Prop}
  {It D:Addr} (hID:It≠D) (hLI:cenv.locals≠It) (hLD:cenv.locals≠D) {own0:ak} {Hs:MH} {hs0:Heap} (I0:bF prog w YC T fr hd d A own0 Hs hs0) (fL:hs0.get? cenv.locals=none) (fI:hs0.get? It=none) (fD:hs0.get? D=none) (bI:YC.get? It=none) (bD:YC.get? D=none)
  {R:Result→Shared→Prop} {s:Shared}
  (hR:∀YD H' h' tk acc vs nn,Qf acc H'→Ok prog w T YC YD H' h'→aH aV own0 Hs hs0 YD H' h'→YD D=none→IsL h' D vs nn→aB YD h' acc vs.toList→(∃m,h'.Ns cenv.locals m)→YD cenv.locals=none→R (.ok .next) (aF s h' tk))
  {YF:ak} {H1:MH} (O1:Ok prog w T YC YF H1 s.heap) (X1:aH aV own0 Hs hs0 YF H1 s.heap) (hgo:nP src (Em T C hd xe x xs loc) Qf items [] H1) (T1:cQ YF s.heap It rng v items 0) (oI:YF It=none) (oD:YF D=none)
  {vs0:Array Value} {n0:Nat} (l0:IsL s.heap D vs0 n0) (hv0:vs0=#[]) {loc1:Loc} (F1:FO YC cenv YF s.heap loc1) (hloc1:∀y,y≠x→Mine.get loc1 y=Mine.get loc y):
  codeAny (model prog w) A (.compLoop (.ListComp elt [⟨.Name (nm x) xp,it,ifs,0⟩] scope pos) 0 (.ref It) (.ref D) cenv) R s:=by
 refine codeAny_compLoop_tests
  (En prog w YC T src (nP src (Em T C hd xe x xs loc) Qf) items own0 Hs hs0 It D rng v x loc cenv s) ?_ items.length
  (.mk 0 YF H1 s.heap s.toks [] vs0 n0 loc1 rfl rfl (Nat.zero_le _) hgo O1 X1 T1 oI oD l0 (by rw [hv0];exact .nil) (Nat.zero_le _) F1 hloc1)
 rintro k s' ⟨i,YD,H',h',tk,acc,vs,nn,loc',rfl,rfl,hil,go,O,X,It',oI',oD',l',racc,hacc,F,hloc⟩
 have I:bF prog w YC T fr hd d A YD H' h':=I0.step O X
 have hsrc:src H':=by
  induction hd':items.drop i using List.casesOn with
  | nil=>rw [hd'] at go;exact go.1
  | cons a b=>rw [hd'] at go;exact go.1
 obtain ⟨oIt,eIt,ntI,fsI,dI⟩:=It'.obj
 refine t6 O (I.hg) hi hsrc It' oI' (fun y val h2 tk2 e r It2 sb=> ?_) fun e h2 eb hh=> ?_
 ·
  have hlt:i<items.length:=by
   rcases Nat.lt_or_ge i items.length with q | q
   ·exact q
   ·rw [List.getElem?_eq_none q] at e;exact aG e
  have hdrop:items.drop i=y::items.drop (i+1):=by
   rw [List.getElem?_eq_some_iff] at e
   obtain ⟨z1,z2⟩:=e
   rw [List.drop_eq_getElem_cons z1,z2]
  rw [hdrop] at go
  obtain ⟨_,go⟩:=go
  obtain ⟨o2,e2,_,_⟩:=It2.obj
  obtain ⟨O2,Y2⟩:=O.other eIt sb oI' bI ntI ⟨o2,e2⟩ (F:=(· =It)) rfl
  have X2:aH aV own0 Hs hs0 YD H' h2:=X.trans_new Y2 (by rintro a rfl;exact fI)
  have F2:FO YC cenv YD h2 loc':=F.keepG Y2 hLI (by rintro a rfl;exact ⟨_,eIt,fun v z=>by rw [dI] at z;injection z⟩)
  have l2:IsL h2 D vs nn:=(sb.2 D (Ne.symm hID)).trans l'
  have racc2:=racc.keep Y2.tup
  refine wpAny_assign_Name (qy he hx O2 F2 r fun h3 tk3 O3 Y3 F3 sb3=> ?_)
  have X3:aH aV own0 Hs hs0 YD H' h3:=X2.trans_new Y3 (by rintro a rfl;exact fL)
  have F3':FO YC cenv YD h3 (put loc x y):=F3.congr fun z=>by
   rw [cD,cD]
   by_cases q:x=z
   ·rw [if_pos q,if_pos q]
   ·rw [if_neg q,if_neg q,hloc z (Ne.symm q)]
  have l3:IsL h3 D vs nn:=(sb3.2 D (Ne.symm hLD)).trans l2
  have It3:cQ YD h3 It rng v items (i+1):=It2.keep Y3.tup fun o eo zz=>(sb3.2 It (Ne.symm hLI)).trans eo
  have racc3:=racc2.keep Y3.tup
  have I3:bF prog w YC T fr hd d A YD H' h3:=I0.step O3 X3
  refine QZ hifs cenv C d hd fr (put loc x y) H' _ eG he hc go A YD _ _ _ I3 F3' (fun t H4 own4 h4 tk4 t' hw4 O4 Y4 r4=> ?_) fun zz zz zz zz zz z=>z.elim
  subst r4
  have X4:aH aV own0 Hs hs0 own4 H4 h4:=X3.trans Y4
  induction t using Bool.casesOn with
  | false=>
   rw [if_neg Bool.false_ne_true]
   obtain ⟨l4,oD4⟩:=Eo Y4 oD' l3
   obtain ⟨It4,oI4⟩:=Ep Y4 oI' It3
   exact ⟨items.length - (i+1),Nat.sub_succ_lt_self _ _ hlt, .mk (i+1) own4 H4 h4 _ acc vs nn (put loc x y) rfl rfl hlt hw4 O4 X4 It4 oI4 oD4 l4 (racc3.keep Y4.tup) (Nat.le_succ_of_le hacc) (F3'.keep Y4) fun z q=>by rw [cD,if_neg (Ne.symm q)]⟩
  | true=>
   rw [if_pos rfl]
   refine helt cenv C d hd fr (put loc x y) H4 _ eG he hc hw4 A own4 _ _ _ (I0.step O4 X4) (F3'.keep Y4) (fun u H5 own5 h5 tk5 uval hw5 O5 Y5 r5=> ?_) fun zz zz zz zz zz z=>z.elim
   have X5:aH aV own0 Hs hs0 own5 H5 h5:=X4.trans Y5
   have Y45:=Y4.trans Y5
   obtain ⟨l5,oD5⟩:=Eo Y45 oD' l3
   obtain ⟨It5,oI5⟩:=Ep Y45 oI' It3
   have racc5:=racc3.keep Y45.tup
   have elen:acc.length=vs.size:=by have:=racc.length;simpa using this
   refine wpAny_list_append_plain ⟨_,l5⟩ (fun h6 ⟨n6,l6⟩ sb6=> ?_) (by rw [←elen,←gB];omega)
   have ntD: ¬gP {cls:= .type "list",dict:=none,data:= .seq vs nn,slots:=#[]}:=fun ⟨z,_⟩=>by injection z with z;exact absurd z (by decide)
   obtain ⟨O6,Y6⟩:=O5.other l5 sb6 oD5 bD ntD ⟨_,l6⟩ (F:=(· =D)) rfl
   have F5:=F3'.keep Y45
   have F6:FO YC cenv own5 h6 (put loc x y):=F5.keepG Y6 hLD (by rintro a rfl;exact ⟨_,l5,fun v z=>by injection z⟩)
   exact ⟨items.length - (i+1),Nat.sub_succ_lt_self _ _ hlt, .mk (i+1) own5 H5 h6 _ (acc++ [u]) (vs.push uval) n6 (put loc x y) rfl rfl hlt hw5 O6 (X5.trans_new Y6 (by rintro a rfl;exact fD)) (It5.keep Y6.tup fun o eo zz=>(sb6.2 It hID).trans eo) oI5 oD5 l6
    (by rw [Array.toList_push];exact (racc5.keep Y6.tup).append (.cons (r5.keep Y6.tup) .nil)) (by rw [List.length_append];exact Nat.succ_le_succ hacc) F6 fun z q=>by rw [cD,if_neg (Ne.symm q)]⟩
 ·
  obtain ⟨O2,Y2⟩:=O.but eIt eb oI' bI ntI hh (F:=(· =It)) rfl
  have X2:aH aV own0 Hs hs0 YD H' h2:=X.trans_new Y2 (by rintro a rfl;exact fI)
  have hnil:items.drop i= []:=List.drop_eq_nil_of_le (List.getElem?_eq_none_iff.mp e)
  rw [hnil] at go
  obtain ⟨m,n1,_⟩:=F.ns
  obtain ⟨oL,esL,epL,eL,rL⟩:=id n1.ns
  exact hR YD H' h2 tk acc vs nn go.2 O2 X2 oD' (eb D _ (Ne.symm hID) l') (racc.keep Y2.tup) ⟨m,oL,esL,epL,eb _ _ hLI eL,rL⟩ F.ownL
end
theorem oM{x:String}:∀{loc:Loc} {y:String},Mine.get (loc.filter fun p=>p.1 !=x) y=if y=x then none else Mine.get loc y
 | [],y=>by simp [Mine.get]
 | (k,v)::r,y=>by
  have ih:=oM (x:=x) (loc:=r) (y:=y)
  rw [List.filter_cons]
  by_cases q:k=x
  ·subst q
   have e:(((k,v):String×V).1 !=k)=false:=by simp
   rw [e,if_neg Bool.false_ne_true,ih]
   by_cases z:y=k
   ·rw [if_pos z,if_pos z]
   ·rw [if_neg z,if_neg z,jW,if_neg (Ne.symm z)]
  ·have e:(((k,v):String×V).1 !=x)=true:=by simpa using q
   rw [e,if_pos rfl,jW,jW]
   by_cases z:k=y
   ·rw [if_pos z,if_pos z,if_neg (by rw [←z];exact q)]
   ·rw [if_neg z,if_neg z];exact ih
section
variable{prog:Program}{w:World}{YC:Heap}{K:Frag}{T:Tab}
theorem Ok.adopt{own own0:ak}{H H0:MH}{h hs:Heap}{D:Addr}{vs:Array Value}{n:Nat}{xs:List V}(O:Ok prog w T YC own H h)(oD:own D=none)(bD:YC.get? D=none)(l:IsL h D vs n)(r:aB own h xs vs.toList)(X:aH aV own0 H0 hs own H h)(fD:hs.get? D=none):
  Ok prog w T YC (own.set D (some D)) (H.upd D (.list xs)) h∧aH aV own0 H0 hs (own.set D (some D)) (H.upd D (.list xs)) h∧H D=none:=by
 have hD:H D=none:=by
  induction e:H D using Option.casesOn with
  | none=>rfl
  | some o=>rw [(O.rep D o e).1] at oD;exact jN oD
 have ne:∀a,a≠D→own.set D (some D) a=own a:=fun a z=>by unfold ak.set;rw [if_neg z]
 have tk:dM own h (own.set D (some D)) h:=fun a o e no c=>by
  have z:a≠D:=fun z=>by subst z;rw [l] at e;obtain rfl:=Option.some.inj e;exact absurd c.1 (by intro y;injection y with y;exact absurd y (by decide))
  exact ⟨by rw [ne a z];exact no,e⟩
 refine ⟨⟨O.base,fun a o e=>by rw [ne a fun z=>by rw [z,bD] at e;exact aG e];exact O.old a o e,fun a o e=> ?_⟩,⟨fun a o e=> ?_,X.keep,X.tups,X.there,fun a e=>qm hD a (X.exc a e),X.tb⟩,hD⟩
 ·unfold MH.upd at e
  by_cases q:a=D
  ·subst q
   rw [if_pos rfl] at e;obtain rfl:=Option.some.inj e
   exact ⟨by unfold ak.set;rw [if_pos rfl], .list l (r.keep tk)⟩
  ·rw [if_neg q] at e
   obtain ⟨r1,r2⟩:=O.rep a o e
   refine ⟨by rw [ne a q];exact r1,r2.keep r1 tk fun y oy ey eo=>⟨ey, ?_⟩⟩
   rw [ne y fun z=>by rw [z,oD] at eo;exact aG eo];exact eo
 ·rw [ne a fun z=>by rw [z,fD] at e;exact aG e];exact X.same a o e
theorem Ok.away{F:Addr→Prop}{own own0:ak}{H H0:MH}{h h' hs:Heap}{u:Addr}{ou:Obj}(O:Ok prog w T YC own H h)(X:aH F own0 H0 hs own H h)(eu:h.get? u=some ou)(sb:Heap.SameBut u h h')(hu:own u=none)(h0:YC.get? u=none)(nt: ¬gP ou)(fu:hs.get? u=none):
  Ok prog w T YC own H h'∧aH F own0 H0 hs own H h':=by
 have ne:∀x b,own x=some b→x≠u:=fun x b n e=>by rw [e,hu] at n;exact aG n
 have tk:dM own h own h':=fun x o e n c=>⟨n,(sb.2 x (fun z=>by subst z;rw [eu] at e;obtain rfl:=Option.some.inj e;exact nt c)).trans e⟩
 have nu:∀a o,hs.get? a=some o→a≠u:=fun a o e z=>by rw [z,fu] at e;exact aG e
 refine ⟨⟨fun x o e=>(sb.2 x (fun z=>by subst z;rw [h0] at e;exact aG e)).trans (O.base x o e),O.old,fun x o e=> ?_⟩,X.same,fun a o e n f=> ?_,fun a o e n c=> ?_,fun a o e=> ?_,X.exc,fun a e z=> ?_⟩
 ·obtain ⟨r1,r2⟩:=O.rep x o e
  exact ⟨r1,r2.keep r1 tk fun y oy ey eo=>⟨(sb.2 y (ne y _ eo)).trans ey,eo⟩⟩
 ·obtain ⟨sl,q1,q2⟩:=X.keep a o e n f
  exact ⟨sl,(sb.2 a (nu a o e)).trans q1,q2⟩
 ·exact (sb.2 a (nu a o e)).trans (X.tups a o e n c)
 ·obtain ⟨o',e'⟩:=X.there a o e
  exact ⟨o',(sb.2 a (nu a o e)).trans e'⟩
 ·obtain ⟨c,fs,e'⟩:=X.exc a e
  obtain ⟨o,vs,t,q1,q2,q3⟩:=X.tb a e z
  exact ⟨o,vs,t,(sb.2 a (ne a _ (O.rep a _ e').1)).trans q1,q2,q3⟩
theorem FO.away{env:Env}{own:ak}{h h':Heap}{u:Addr}{ou:Obj}{loc:Loc}(x:FO YC env own h loc)(eu:h.get? u=some ou)(sb:Heap.SameBut u h h')(nt: ¬gP ou)(hL:env.locals≠u)(nc:∀v,ou.data≠ .cell v):FO YC env own h' loc:=by
 have tk:dM own h own h':=fun x o e n c=>⟨n,(sb.2 x (fun z=>by subst z;rw [eu] at e;obtain rfl:=Option.some.inj e;exact nt c)).trans e⟩
 obtain ⟨m,n1,n2⟩:=x.ns
 refine ⟨x.ownL,x.oldL,⟨m,n1.sameBut sb hL,fun y v a b hz=> ?_⟩,fun y b=> ?_,x.apart⟩
 ·obtain ⟨val,c,d⟩:=n2 y v a b hz
  exact ⟨val,c,d.keep tk⟩
 ·obtain ⟨c,o,vo,q1,q2,q3,q4,q6,q7⟩:=x.cell y b
  have hne:c≠u:=fun z=>by rw [z,eu] at q4;obtain rfl:=Option.some.inj q4;exact nc _ q6
  exact ⟨c,o,vo,q1,q2,q3,(sb.2 c hne).trans q4,q6,fun z v e g=>by
   obtain ⟨val,r1,r2⟩:=q7 z v e g
   exact ⟨val,r1,r2.keep tk⟩⟩
theorem Er{sc:SC}{scope:Scope}{pos cpos:Pos}{it elt:Expr}{ifs:List Expr}{x:String}{xp:Pos}{xe xi:X}{xs:List X}{rng:Bool}
  (hi:SI prog w YC T sc it rng xi) (hifs:dq prog w YC T (cZ sc scope.names) ifs xs) (helt:SE prog w YC T (cZ sc scope.names) elt xe) (hkind:scope.kind= .function) (hx:scope.names.lookup (nm x)=some .local)
  (hloc:∀y∈scope.names,y.2= .local→y.1=nm x∨y.1=nm ".0"∧scope.names.lookup y.1=some .local) (hcell:∀y∈scope.names,y.2≠ .cell) (hfree:∀y∈scope.names,y.2= .free→sc.lookup y.1=some .cell) (hns:gq it=true)
  {env:Env} {C:aO} {d:Nat} {hd:Option Nat} {fr:List Env} {loc:Loc} {H:MH} {Q:Q1} {E:E1} (he:cj env sc) (hc:eZ prog w YC T C d)
  (hw:we T C hd (.comp xe x rng xi xs) loc H Q E) {A:Around} {own:ak} {s:Shared} {use:Option (Value→Sem Unit)} {Q':Value→Shared→Prop} {E':Value→Shared→Prop}
  (I:bF prog w YC T fr hd d A own H s.heap) (F:FO YC env own s.heap loc) (ke:KE prog w YC T own H s E E')
  (hn:use=none→∀z H' YD h' tk,Q (.ref z) H'→Ok prog w T YC YD H' h'→aH aV own H s.heap YD H' h'→Q' (.ref z) (aF s h' tk))
  (hu:∀u,use=some u→∀z H' YD h' tk L,Q (.ref z) H'→Ok prog w T YC YD H' h'→aH aV own H s.heap YD H' h'→YD L=none→YC.get? L=none→s.heap.get? L=none→(∃m,h'.Ns L m)→
   wpAny (model prog w) A (u (.ref z)) (fun zz s''=>∃m,s''.heap.Ns L m∧∀h'',Heap.SameBut L s''.heap h''→Q' .none (aF s'' h'' s''.toks)) E' (aF s h' tk)):
  wpAny (model prog w) A (comprehension (.ListComp elt [⟨.Name (nm x) xp,it,ifs,0⟩] scope pos) scope env cpos (newList []) false (eval it env) use) Q' E' s:=by
 have hfree':∀y∈scope.names,y.2= .free→∃c,env.cells.lookup y.1=some c:=fun y hy k=>by
  have z:=hfree y hy k
  rw [←he.names] at z
  obtain ⟨c,_,_,q,_⟩:=F.cell y.1 z
  exact ⟨c,q⟩
 obtain ⟨cl,hclos,cl1,cl2⟩:=QV hfree'
 have hnames:∀y∈scope.names,y.2= .local→scope.names.lookup y.1=some .local:=fun y hy k=>by
  rcases hloc y hy k with z | z
  ·rw [z];exact hx
  ·exact z.2
 refine wpAny_comprehension_free rfl (Ei hns) hclos hkind hnames ?_
 refine hi env C d hd fr loc H _ E he hc hw A own s _ E' I F (fun v H1 q=> ?_) (fun v H1 YF h1 tk1 It items src hq hitems O1 X1 T1 oI fI bI=> ?_) ke
 ·exact aa.el q fun p e zz=>by rw [e];rfl
 have hq:aa (fO H1 rng v) _:=hq
 rw [hitems] at hq
 obtain ⟨hlen,hgo⟩:=hq
 obtain ⟨oIt,eIt,ntI,fsI,dI⟩:=T1.obj
 refine wpAny_newList ?_
 dsimp only [aF]
 obtain ⟨O2,X2,oD2⟩:=O1.loose {cls:= .type "list",data:= .seq ([]:List Value).toArray}
 refine wpAny_newFunctionEnv hcell (by intro y hy;simp at hy) (fun h3 hns3 hsb3=> ?_) hkind
 dsimp only [aF] at hns3 hsb3 ⊢
 obtain ⟨O3,X3,oL3⟩:=O2.loose {cls:= .type "dict",data:= .dict #[]}
 generalize hDe:h1.objs.size=D at*
 have hD1:h1.get? D=none:=by rw [←hDe];exact mQ
 generalize hh2:h1.push {cls:= .type "list",data:= .seq ([]:List Value).toArray}=h2 at*
 have lD:IsL h2 D #[] 0:=by rw [←hh2,←hDe];exact Heap.get?_push_size _ rfl
 generalize hLe:h2.objs.size=L at*
 have hL2:h2.get? L=none:=by rw [←hLe];exact mQ
 have oL:(h2.push {cls:= .type "dict",data:= .dict #[]}).get? L=some {cls:= .type "dict",data:= .dict #[]}:=by rw [←hLe];exact Heap.get?_push_size _ rfl
 have hns3':h3.Ns L (fun x=>([]:List (Str×Value)).reverse.lookup x):=hns3
 have hsb3':Heap.SameBut L (h2.push {cls:= .type "dict",data:= .dict #[]}) h3:=hsb3
 obtain ⟨oL',_,_,eL',_⟩:=id hns3'
 have bL:YC.get? L=none:=O2.none_of (by rw [←hLe];exact Nat.le_refl _)
 have bD:YC.get? D=none:=O1.none_of (by rw [←hDe];exact Nat.le_refl _)
 obtain ⟨O4,Y4⟩:=O3.other oL hsb3' oL3 bL (fun ⟨_,_,_,z⟩=>by injection z) ⟨_,eL'⟩ (F:=(· =L)) rfl
 have X12:=(X1.trans X2).trans X3
 have fL:s.heap.get? L=none:=by
  induction e:s.heap.get? L using Option.casesOn with
  | none=>rfl
  | some o=>obtain ⟨o',e'⟩:=(X1.trans X2).there _ _ e;rw [hL2] at e';exact aG e'
 have fD:s.heap.get? D=none:=by
  induction e:s.heap.get? D using Option.casesOn with
  | none=>rfl
  | some o=>obtain ⟨o',e'⟩:=X1.there _ _ e;rw [hD1] at e';exact aG e'
 have X4:aH aV own H s.heap _ H1 h3:=X12.trans_new Y4 (by rintro a rfl;exact fL)
 have hID:It≠D:=fun z=>by rw [z,hD1] at eIt;exact aG eIt
 have eIt2:h2.get? It=some oIt:=by rw [←hh2];exact Heap.get?_push_of_some _ eIt
 have hLI:L≠It:=fun z=>by rw [←z,hL2] at eIt2;exact aG eIt2
 have hLD:L≠D:=fun z=>by rw [z] at hL2;rw [show h2.get? D=_ from lD] at hL2;exact jN hL2
 have lD3:IsL h3 D #[] 0:=(hsb3'.2 D (Ne.symm hLD)).trans (Heap.get?_push_of_some _ lD)
 have It3:h3.get? It=some oIt:=(hsb3'.2 It (Ne.symm hLI)).trans (Heap.get?_push_of_some _ eIt2)
 have Xi:=((X2.trans X3).mono (G:=(· =L)) fun zz z=>z.elim).trans Y4
 have T4:=T1.keep Xi.tup fun o e zz=>by rw [eIt] at e;obtain rfl:=Option.some.inj e;exact It3
 have oI4:=(Xi.same It _ eIt).trans oI
 have oD4:=(X3.same D _ lD).trans oD2
 have F4:FO YC env ((YF.set D none).set L none) h3 loc:=F.keep X4
 have I4:bF prog w YC T fr hd d A ((YF.set D none).set L none) H1 h3:=I.step O4 X4
 have hcenv:cj (compEnvC scope cl L env) (cZ sc scope.names):=⟨by rw [←he.names];exact QX scope env he.kind,hkind,he.globals,he.builtins⟩
 have Fc:FO YC (compEnvC scope cl L env) ((YF.set D none).set L none) h3 (loc.filter fun p=>p.1 !=x):=by
  refine ⟨oL3,bL,⟨_,(Heap.Ns1.of_empty hns3'),fun y v e k hz=> ?_⟩,fun y k=> ?_,fun y z c e1 e2=>F.apart y z c (cl1 y c e1) (cl1 z c e2)⟩
  ·have k':(cZ sc scope.names).lookup (nm y)=some .local:=by rw [←hcenv.names];exact k
   rcases hloc _ (Ek k') rfl with z | z
   ·rw [oM,if_pos (lu z)] at e;exact aG e
   ·exact absurd (lu z.1) hz
  ·have k':(cZ sc scope.names).lookup y=some .cell:=by rw [←hcenv.names];exact k
   obtain ⟨z1,z2⟩:=Ej hcell k'
   rw [←he.names] at z2
   obtain ⟨c,o,vo,q1,q2,q3,q4,q6,q7⟩:=F4.cell y z2
   obtain ⟨c',e'⟩:=Option.isSome_iff_exists.mp (cl2 y z1)
   have:=cl1 y c' e'
   rw [q1] at this;obtain rfl:=Option.some.inj this
   exact ⟨c,o,vo,e',q2,q3,q4,q6,fun z v e g=>by
    rw [oM] at g
    by_cases q:z=x
    ·rw [if_pos q] at g;exact aG g
    ·rw [if_neg q] at g;exact q7 z v e g⟩
 have fI:s.heap.get? It=none:=fI
 have loop:∀s₃:Shared,s₃=(aF s h3 (tk1+([]:List (Str×Value)).length))→
   codeAny (model prog w) A (.compLoop (.ListComp elt [⟨.Name (nm x) xp,it,ifs,0⟩] scope pos) 0 (.ref It) (.ref D) (compEnvC scope cl L env)) (compPost (model prog w) A E' use Q' (.ref D) L) s₃:=by
  rintro s₃ rfl
  refine Q0 (sc:=cZ sc scope.names) (loc:=loc) hifs helt (by rw [←hcenv.names];exact lookup_relabel_local hx) hcenv hc hitems hlen hID hLI hLD I fL fI fD bI bD (fun YD H' h' tk acc vs nn hq O X oD' l r ⟨m,nsL⟩ oL'=> ?_) O4 X4 hgo T4 oI4 oD4 lD3 rfl Fc (fun y q=>by rw [oM,if_neg q])
  obtain ⟨O',X',hD'⟩:=O.adopt oD' bD l r X fD
  have oL'':YD.set D (some D) L=none:=by unfold ak.set;rw [if_neg hLD];exact oL'
  obtain ⟨oLo,esL,epL,eLo,dLo,_⟩:=id nsL
  have hq':=hq D hD'
  induction use using Option.casesOn with
  | none=>
   refine ⟨m,nsL,fun h'' sb=> ?_⟩
   obtain ⟨O6,X6⟩:=O'.away X' eLo sb oL'' bL (fun ⟨_,_,_,z⟩=>by rw [dLo] at z;injection z) fL
   exact hn rfl D _ _ h'' tk hq' O6 X6
  | some u=>
   exact hu u rfl D _ _ h' tk L hq' O' X' oL'' bL fL ⟨m,nsL⟩
 exact codeAny_compStart_list (loop _ rfl) (by
  have T4':=T4
  cases T4' with
  | list a=>exact wpAny_pyIter_listiter a (loop _ rfl)
  | tup a=>exact wpAny_pyIter_tupleiter a (loop _ rfl)
  | rng _ b=>exact wpAny_pyIter_rangeiter b (loop _ rfl))
theorem Q3{sc:SC}{scope:Scope}{pos:Pos}{it elt:Expr}{ifs:List Expr}{x:String}{xp:Pos}{xe xi:X}{xs:List X}{rng:Bool}
  (hi:SI prog w YC T sc it rng xi) (hifs:dq prog w YC T (cZ sc scope.names) ifs xs) (helt:SE prog w YC T (cZ sc scope.names) elt xe) (hkind:scope.kind= .function) (hx:scope.names.lookup (nm x)=some .local)
  (hloc:∀y∈scope.names,y.2= .local→y.1=nm x∨y.1=nm ".0"∧scope.names.lookup y.1=some .local) (hcell:∀y∈scope.names,y.2≠ .cell) (hfree:∀y∈scope.names,y.2= .free→sc.lookup y.1=some .cell) (hns:gq it=true):
  SE prog w YC T sc (.ListComp elt [⟨.Name (nm x) xp,it,ifs,0⟩] scope pos) (.comp xe x rng xi xs):=by
 intro env C d hd fr loc H Q E he hc hw A own s Q' E' I F kq ke
 refine Er hi hifs helt hkind hx hloc hcell hfree hns he hc hw I F ke (fun zz z H' YD h' tk q O X=>kq _ _ _ _ tk _ q O X (.ref z)) fun u e=>nomatch e
theorem Q4{sc:SC}{scope:Scope}{pos:Pos}{it elt:Expr}{ifs:List Expr}{x:String}{xp:Pos}{xe xi:X}{xs:List X}{rng:Bool}
  (hi:SI prog w YC T sc it rng xi) (hifs:dq prog w YC T (cZ sc scope.names) ifs xs) (helt:SE prog w YC T (cZ sc scope.names) elt xe) (hkind:scope.kind= .function) (hx:scope.names.lookup (nm x)=some .local)
  (hloc:∀y∈scope.names,y.2= .local→y.1=nm x∨y.1=nm ".0"∧scope.names.lookup y.1=some .local) (hcell:∀y∈scope.names,y.2≠ .cell) (hfree:∀y∈scope.names,y.2= .free→sc.lookup y.1=some .cell) (hns:gq it=true)
  {y:String} {yp:Pos} (hy:sc.lookup (nm y)=some .local) {env:Env} {C:aO} {d:Nat} {hd:Option Nat} {fr:List Env} {loc:Loc} {H:MH} {Q:Loc→MH→Prop} {E:E1} (he:cj env sc) (hc:eZ prog w YC T C d)
  (hw:we T C hd (.comp xe x rng xi xs) loc H (fun v H'=>Q (put loc y v) H') E) {A:Around} {own:ak} {s:Shared} {Q':Unit→Shared→Prop} {E':Value→Shared→Prop} {cpos:Pos}
  (I:bF prog w YC T fr hd d A own H s.heap) (F:FO YC env own s.heap loc) (kl:KL prog w YC T env own H s Q Q') (ke:KE prog w YC T own H s E E'):
  wpAny (model prog w) A (comprehension (.ListComp elt [⟨.Name (nm x) xp,it,ifs,0⟩] scope pos) scope env cpos (newList []) false (eval it env) (some fun v=>assign (.Name (nm y) yp) env v)) (fun zz s'=>Q' () s') E' s:=by
 refine Er hi hifs helt hkind hx hloc hcell hfree hns he hc hw I F ke (fun e=>nomatch e) fun u e z H' YD h' tk L q O X oL bL fL nL=> ?_
 obtain rfl:=Option.some.inj e
 have F':=F.keep X
 obtain ⟨m,nL⟩:=nL
 obtain ⟨oLo,esL,epL,eLo,dLo,rL⟩:=id nL
 obtain ⟨m0,n0,_⟩:=F.ns
 have hne:env.locals≠L:=fun q=>by
  obtain ⟨o,_,_,e,_⟩:=n0
  rw [q,fL] at e;exact aG e
 refine wpAny_assign_Name (qy he hy O F' (.ref z) fun h2 tk2 O2 X2 F2 sb=> ?_)
 have eLo2:h2.get? L=some oLo:=(sb.2 L (Ne.symm hne)).trans eLo
 refine ⟨m,⟨oLo,esL,epL,eLo2,dLo,rL⟩,fun h3 sb3=> ?_⟩
 have nt: ¬gP oLo:=fun ⟨_,_,_,z⟩=>by rw [dLo] at z;injection z
 have X12:aH (bQ env) own H s.heap YD H' h2:=X.any.trans (X2.mono fun zz z=> .inl z)
 obtain ⟨O3,X3⟩:=O2.away X12 eLo2 sb3 oL bL nt fL
 exact kl _ _ _ _ _ q O3 X3 (F2.away eLo2 sb3 nt hne fun v z=>by rw [dLo] at z;injection z)
end
theorem oN{H:MH}{a:Nat}{o:Mine.O}(h:H a=some o):H.upd a o=H:=by
 funext b
 unfold MH.upd
 split
 ·rename_i z;rw [z,h]
 ·rfl
section
variable{prog:Program}{w:World}{YC:Heap}{K:Frag}{T:Tab}{own:ak}{H:MH}{h h':Heap}
structure qC(own:ak)(h:Heap)(e:Addr)(o:Obj)(vs:Array Value):Prop where
 mine:own e=some e
 obj:h.get? e=some o
 data:o.data= .fields vs
 size:2<vs.size
 ctx:vs[2]? =some .none
 tb:vs[1]? =some .none∨∃t ot ts,vs[1]? =some (.ref t)∧own t=some e∧t≠e∧h.get? t=some ot∧ot.data= .fields ts∧3<ts.size
theorem Ok.excAt(O:Ok prog w T YC own H h){e:Nat}(he:c7 H e):∃o vs,qC own h e o vs:=by
 obtain ⟨c,fs,q⟩:=he
 obtain ⟨ho,R⟩:=O.rep e _ q
 cases R with
 | exc e1 e2 e3 e4 e5 e6 e7 e8 e9 e10 e11 e12 e13=>exact ⟨_,_,ho,e1,e4,e11,e12,e13⟩
 | exc0 e1 f1 f2 f3 e6 e7 e8 e9=>exact ⟨_,_,ho,e1,f3,e7,e8,e9⟩
theorem Ok.record(O:Ok prog w T YC own H h){e:Nat}(he:c7 H e){o:Obj}{vs vs':Array Value}(x:qC own h e o vs)(sb:Heap.SameBut e h h')(ho:h'.get? e=some {o with data:= .fields vs'})(hsz:vs'.size=vs.size)(hc:vs'[2]? =some .none)
  (htb:vs'[1]? =some .none∨∃t ot ts,vs'[1]? =some (.ref t)∧own t=some e∧t≠e∧h'.get? t=some ot∧ot.data= .fields ts∧3<ts.size) (hT:(∃t,vs[1]? =some (.ref t))→∃t,vs'[1]? =some (.ref t)):
  Ok prog w T YC own H h'∧aH aV own H h own H h':=by
 obtain ⟨c,fs,q⟩:=he
 obtain ⟨hown,R⟩:=O.rep e _ q
 have z:=O.upd (F:=aV) (b:=e) (u:=e) (ou:=o) (ob:= .exc c fs) (h':=h') x.mine x.obj sb ⟨_,ho⟩ x.mine (fun tk=>by
  cases R with
  | exc e1 e2 e3 e4 e5 e6 e7 e8 e9 e10 e11 e12 e13=>
   have:=x.obj
   rw [e1] at this;obtain rfl:=Option.some.inj this
   refine .exc ho e2 e3 rfl e5 e6 (e7.sameBut sb e6) (e8.keep tk) e9 e10 (by rw [hsz];exact x.size) hc htb
  | exc0 e1 f1 f2 f3 e6 e7 e8 e9=>
   have:=x.obj
   rw [e1] at this;obtain rfl:=Option.some.inj this
   exact .exc0 ho f1 f2 rfl e6 (by rw [hsz];exact x.size) hc htb) (fun zz zz zz=>⟨_,_,rfl⟩) fun _ ⟨o',vs2,t,z1,z2,z3⟩=>by
   rw [x.obj] at z1;obtain rfl:=Option.some.inj z1
   rw [x.data] at z2;injection z2 with z2
   obtain ⟨t',z4⟩:=hT ⟨t,by rw [z2];exact z3⟩
   exact ⟨_,_,t',ho,rfl,z4⟩
 rwa [oN q] at z
set_option tactic.hygienic true in
theorem Ok.headF(O:Ok prog w T YC own H h){e:Nat}(he:c7 H e){o:Obj}{vs:Array Value}(x:qC own h e o vs){t:Addr}{ot:Obj}{ts:Array Value}(h1:vs[1]? =some (.ref t))(h2:own t=some e)(h3:t≠e)(h4:h.get? t=some ot){ts0:Array Value}(h5:ot.data= .fields ts0)(sb:Heap.SameBut t h h'){ot':Obj}(ho:h'.get? t=some ot')(hd:ot'.data= .fields ts)(hs:3<ts.size):
  Ok prog w T YC own H h'∧aH aV own H h own H h'∧qC own h' e o vs:=by
 obtain ⟨c,fs,q⟩:=he
 obtain ⟨hown,R⟩:=O.rep e _ q
 have z:=O.upd (F:=aV) (b:=e) (u:=t) (ou:=ot) (ob:= .exc c fs) (h':=h') h2 h4 sb ⟨_,ho⟩ hown (fun tk=>by
  cases R with
  | exc e1 e2 e3 e4 e5 e6 e7 e8 e9 e10 e11 e12 e13=>
   rename_i d m o' vs'
   have:=x.obj
   rw [e1] at this;obtain rfl:=Option.some.inj this
   have hvs:vs'=vs:=by
    have:=x.data
    rw [e4] at this;injection this
   subst hvs
   obtain ⟨od,_,_,ed,dd,_⟩:=id e7
   have hdt:d≠t:=fun z=>by rw [z,h4] at ed;obtain rfl:=Option.some.inj ed;rw [h5] at dd;injection dd
   exact .exc ((sb.2 e (Ne.symm h3)).trans e1) e2 e3 e4 e5 e6 (e7.sameBut sb hdt) (e8.keep tk) e9 e10 e11 e12 (.inr ⟨t,ot',ts,h1,h2,h3,ho,hd,hs⟩)
  | exc0 e1 f1 f2 f3 e6 e7 e8 e9=>
   rename_i o' vs'
   have:=x.obj
   rw [e1] at this;obtain rfl:=Option.some.inj this
   have hvs:vs'=vs:=by
    have:=x.data
    rw [f3] at this;injection this
   subst hvs
   exact .exc0 ((sb.2 e (Ne.symm h3)).trans e1) f1 f2 f3 e6 e7 e8 (.inr ⟨t,ot',ts,h1,h2,h3,ho,hd,hs⟩)) (fun zz zz zz=>⟨_,_,rfl⟩) fun _ ⟨o',vs2,t',z1,z2,z3⟩=>⟨o',vs2,t',(sb.2 e (Ne.symm h3)).trans z1,z2,z3⟩
 rw [oN q] at z
 exact ⟨z.1,z.2,x.mine,(sb.2 e (Ne.symm h3)).trans x.obj,x.data,x.size,x.ctx, .inr ⟨t,ot',ts,h1,h2,h3,ho,hd,hs⟩⟩
theorem FF.fun{fr:List Env}(x:FF YC own h fr):h.FunFrames YC fr:=by
 induction fr with
 | nil=>trivial
 | cons env r ih=>
  obtain ⟨a,L,m,b,c,d,e⟩:=x env List.mem_cons_self
  obtain ⟨o,es,ep,z,hd,_⟩:=e
  exact ⟨by rw [a];decide,⟨L,o,b,d,z,fun vs q=>by rw [hd] at q;injection q⟩,ih fun env' hm=>x env' (List.mem_cons_of_mem _ hm)⟩
theorem Ok.slots(O:Ok prog w T YC own H h){fr:List Env}(x:FF YC own h fr)(sl:Heap.SlotsOnly (fr.filterMap (·.frame)) h h'):Ok prog w T YC own H h'∧aH aV own H h own H h':=by
 have inF:∀a,a∈fr.filterMap (·.frame)→own a=none∧YC.get? a=none∧∀o,h.get? a=some o→wY o:=fun a ha=>by
  obtain ⟨env,hm,he⟩:=List.mem_filterMap.mp ha
  obtain ⟨_,L,m,b,c,d,e⟩:=x env hm
  rw [b] at he;obtain rfl:=Option.some.inj he
  obtain ⟨o,es,ep,z,hd,_⟩:=e
  exact ⟨c,d,fun o' e'=>by rw [z] at e';obtain rfl:=Option.some.inj e';exact ⟨es,ep,hd⟩⟩
 have tk:dM own h own h':=fun a o e n c=>⟨n,by
  by_cases q:a∈fr.filterMap (·.frame)
  ·obtain ⟨es,ep,z⟩:=(inF a q).2.2 o e
   obtain ⟨_,_,_,y⟩:=c
   rw [z] at y;injection y
  ·exact (sl.2.1 a q).trans e⟩
 refine ⟨⟨fun a o e=> ?_,O.old,fun a o e=> ?_⟩,fun zz zz zz=>rfl,fun a o e n zz=> ?_,fun a o e n c=>(tk a o e n c).2,fun a o e=> ?_,fun zz z=>z,fun a ⟨c,fs,e⟩ ⟨o,vs,t,q1,q2,q3⟩=>⟨o,vs,t,(sl.2.1 a fun z=>by have:=(O.rep a _ e).1;rw [(inF a z).1] at this;exact aG this).trans q1,q2,q3⟩⟩
 ·by_cases q:a∈fr.filterMap (·.frame)
  ·rw [(inF a q).2.1] at e;exact aG e
  ·exact (sl.2.1 a q).trans (O.base a o e)
 ·obtain ⟨r1,r2⟩:=O.rep a o e
  refine ⟨r1,r2.keep r1 tk fun y oy ey eo=>⟨?_,eo⟩⟩
  by_cases q:y∈fr.filterMap (·.frame)
  ·rw [(inF y q).1] at eo;exact aG eo
  ·exact (sl.2.1 y q).trans ey
 ·by_cases q:a∈fr.filterMap (·.frame)
  ·obtain ⟨sl',z⟩:=sl.2.2 a o e
   exact ⟨sl',z, .inl ((inF a q).2.2 o e)⟩
  ·exact ⟨o.slots,(sl.2.1 a q).trans e, .inr rfl⟩
 ·obtain ⟨sl',z⟩:=sl.2.2 a o e
  exact ⟨_,z⟩
end
section
variable{prog:Program}{w:World}{YC:Heap}{K:Frag}{T:Tab}{M:Model}{A:Around}{E:Value→Shared→Prop}{own:ak}{H:MH}{s:Shared}
noncomputable def iW(own:ak)(h:Heap)(e:Addr):Prop:=∃o vs t ot ts,qC own h e o vs∧vs[1]? =some (.ref t)∧own t=some e∧t≠e∧h.get? t=some ot∧ot.data= .fields ts∧3<ts.size
theorem Es{env:Env}{outer:List Env}{L:Addr}(hfr:A.frames=some (env::outer))(ff:FF YC own s.heap (env::outer))(hf:env.frame=some L)(O:Ok prog w T YC own H s.heap){e:Nat}(he:c7 H e){head:Value}{hadNext:Bool}{Q:Unit→Shared→Prop}
  (hQ:∀YD h',Ok prog w T YC YD H h'→aH aV own H s.heap YD H h'→iW YD h' e→Q () (aF s h' s.toks)):
  wpAny M A (do let a←frameOf env;let pl←entryPlaceOf L hadNext;let b←EntryCells.newEntry head a .none (rawInt L) .none pl;PySem.setField (.ref e) 1 b) Q E s:=by
 refine wpAny_bind (wpAny_frameOf_fun hfr ff.fun hf fun h₁ sl=> ?_)
 obtain ⟨O1,X1⟩:=O.slots ff sl
 refine wpAny_bind (wpAny_entryPlaceOf fun pl hpl=> ?_)
 unfold EntryCells.newEntry newFields
 refine wpAny_bind (wpAny_newObj_type ?_ (hpl.sizeOk5 _ _ _ _ _))
 have hts:3<([head,Value.ref L,Value.none,rawInt L,Value.none]++(if pl.isEmpty then List.replicate 6 Value.none else pl)).toArray.size:=by
  simp only [List.size_toArray,List.length_append,List.length_cons,List.length_nil];omega
 generalize hob:({cls:= .type "traceback",dict:=none,data:= .fields ([head,Value.ref L,Value.none,rawInt L,Value.none]++(if pl.isEmpty then List.replicate 6 Value.none else pl)).toArray}:Obj)=ob
 have hdat:ob.data= .fields ([head,Value.ref L,Value.none,rawInt L,Value.none]++(if pl.isEmpty then List.replicate 6 Value.none else pl)).toArray:=by rw [←hob]
 have hnew:(h₁.push ob).get? h₁.objs.size=some ob:=Heap.get?_push_size _ (by rw [←hob];rfl)
 obtain ⟨O2,X2⟩:=O1.push ob (some e)
 have hen:∀a oa,h₁.get? a=some oa→a≠h₁.objs.size:=fun a oa q=>Nat.ne_of_lt (Heap.lt_size q)
 obtain ⟨o,vs,x⟩:=O2.excAt he
 have hte:h₁.objs.size≠e:=by
  obtain ⟨o1,vs1,x1⟩:=O1.excAt he
  exact Ne.symm (hen e _ x1.obj)
 have eo:∀vs',{o with data:=Data.fields vs'}=Obj.mapFields (fun zz=>vs') o:=fun vs'=>by
  have:=x.data
  obtain ⟨c,d,dt,sl'⟩:=o
  subst this;rfl
 refine wpAny_setField x.obj x.data (by have:=x.size;omega) ?_
 have e3:((h₁.push ob).update e (Obj.mapFields (·.setIfInBounds 1 (Value.ref h₁.objs.size)))).get? e=some {o with data:= .fields (vs.setIfInBounds 1 (.ref h₁.objs.size))}:=by
  rw [Heap.get?_update_self _ x.obj (Obj.isFreed_of_fields (Obj.data_mapFields x.data _)),eo]
  have:=x.data
  obtain ⟨c,d,dt,sl'⟩:=o
  subst this;rfl
 have sb:=Heap.SameBut.update (h₁.push ob) e (Obj.mapFields (·.setIfInBounds 1 (Value.ref h₁.objs.size)))
 have htb:(vs.setIfInBounds 1 (Value.ref h₁.objs.size))[1]? =some (.ref h₁.objs.size):=by
  have:=x.size
  rw [Array.getElem?_setIfInBounds_self_of_lt (by omega)]
 have hc2:(vs.setIfInBounds 1 (Value.ref h₁.objs.size))[2]? =some .none:=by rw [Array.getElem?_setIfInBounds_ne (by decide)];exact x.ctx
 have hown2:own.set h₁.objs.size (some e) h₁.objs.size=some e:=qw
 have hT:=(sb.2 _ hte).trans hnew
 obtain ⟨O3,X3⟩:=O2.record he x sb e3 (by rw [Array.size_setIfInBounds]) hc2 (.inr ⟨h₁.objs.size,ob,_,htb,hown2,hte,hT,hdat,hts⟩) fun zz=>⟨_,htb⟩
 exact hQ _ _ O3 ((X1.trans X2).trans X3) ⟨_,_,h₁.objs.size,ob,_,⟨x.mine,e3,rfl,by rw [Array.size_setIfInBounds];exact x.size,hc2, .inr ⟨_,ob,_,htb,hown2,hte,hT,hdat,hts⟩⟩,htb,hown2,hte,hT,hdat,hts⟩
theorem oO{env:Env}{outer:List Env}{L:Addr}(hfr:A.frames=some (env::outer))(ff:FF YC own s.heap (env::outer))(hf:env.frame=some L)(O:Ok prog w T YC own H s.heap){e:Nat}(he:c7 H e){Q:Unit→Shared→Prop}
  (hQ:∀YD h',Ok prog w T YC YD H h'→aH aV own H s.heap YD H h'→iW YD h' e→Q () (aF s h' s.toks)):wpAny M A (noteFrame (.ref e) env) Q E s:=by
 obtain ⟨o,vs,x⟩:=O.excAt he
 unfold noteFrame
 simp only [hf]
 rcases x.tb with h1 | ⟨t,ot,ts,h1,h2,h3,h4,h5,h6⟩
 ·refine wpAny_bind (wpAny_field x.obj x.data h1 ?_)
  rw [if_neg (by decide)]
  exact Es hfr ff hf O he hQ
 ·refine wpAny_bind (wpAny_field x.obj x.data h1 ?_)
  rw [if_pos (show (Value.ref t !=Value.none)=true from by simp)]
  refine wpAny_bind (wpAny_field h4 h5 (Array.getElem?_eq_getElem h6) ?_)
  by_cases q:(ts[3]==rawInt L)=true
  ·rw [if_pos q]
   exact wpAny_pure (hQ own s.heap O .refl ⟨o,vs,t,ot,ts,x,h1,h2,h3,h4,h5,h6⟩)
  ·rw [if_neg q]
   refine wpAny_bind (wpAny_setField h4 h5 h6 ?_)
   obtain ⟨O1,X1,x1⟩:=O.headF he x h1 h2 h3 h4 h5 (Heap.SameBut.update ..) (Heap.get?_update_self _ h4 (Obj.isFreed_of_fields (Obj.data_mapFields h5 _))) (Obj.data_mapFields h5 (·.setIfInBounds 3 .none)) (by rw [Array.size_setIfInBounds];exact h6)
   exact Es (s:=(aF s _ s.toks)) hfr (ff.keep X1) hf O1 he fun own2 h2 O2 X2 q=>hQ own2 h2 O2 (X1.trans X2) q
theorem lE(O:Ok prog w T YC own H s.heap){e:Nat}(he:c7 H e)(f:Option Addr){Q:Unit→Shared→Prop}
  (hQ:∀h',Ok prog w T YC own H h'→aH aV own H s.heap own H h'→(iW own s.heap e→iW own h' e)→Q () (aF s h' s.toks)):wpAny M A (setFlight (.ref e) f) Q E s:=by
 obtain ⟨o,vs,x⟩:=O.excAt he
 unfold setFlight
 rcases x.tb with h1 | ⟨t,ot,ts,h1,h2,h3,h4,h5,h6⟩
 ·refine wpAny_bind (wpAny_field x.obj x.data h1 ?_)
  rw [if_neg (by decide)]
  exact wpAny_pure (hQ s.heap O .refl id)
 ·refine wpAny_bind (wpAny_field x.obj x.data h1 ?_)
  rw [if_pos (show (Value.ref t !=Value.none)=true from by simp)]
  refine wpAny_setField h4 h5 h6 ?_
  have e1:=Heap.get?_update_self (Obj.mapFields (·.setIfInBounds 3 (f.elim Value.none fun f=>rawInt f))) h4 (Obj.isFreed_of_fields (Obj.data_mapFields h5 _))
  have e2:=Obj.data_mapFields h5 (·.setIfInBounds 3 (f.elim Value.none fun f=>rawInt f))
  have e3:3<(ts.setIfInBounds 3 (f.elim Value.none fun f=>rawInt f)).size:=by rw [Array.size_setIfInBounds];exact h6
  obtain ⟨O1,X1,x1⟩:=O.headF he x h1 h2 h3 h4 h5 (Heap.SameBut.update ..) e1 e2 e3
  exact hQ _ O1 X1 fun zz=>⟨o,vs,t,_,_,x1,h1,h2,h3,e1,e2,e3⟩
end
theorem Q5{e:Expr}(h:v5 e=true){t:Option Expr}{l:Nat}{env:Env}:swapsWith e t l env=pure false:=by
 induction e using PySem.Expr.casesOn<;>first | rfl | exact absurd h Bool.false_ne_true
theorem Q6{env:Env}{sc:SC}(he:cj env sc):interactive env=false:=by
 unfold interactive;rw [he.kind];rfl
theorem Et{env:Env}{sc:SC}(he:cj env sc):env.blockKind= .function:=by
 unfold Env.blockKind;rw [he.kind];rfl
theorem qD{α:Type}{b:Bool}{x y:Option α}{X Y:Sem α}{r:α}(h:(if b=true then x else y)=some r)(h1:x=some r→X=pure r)(h2:y=some r→Y=pure r):(if b=true then X else Y)=pure r:=by
 induction b using Bool.casesOn with
 | true=>exact h1 h
 | false=>exact h2 h
theorem Eu{sc:SC}{ts vs:List Expr}{r:Option (List Str)}(h:v6 sc ts vs=some r){env:Env}(he:cj env sc){k k2:Nat}{p p2:Pos}:swappedStores [.Tuple ts k p] (.Tuple vs k2 p2) env=pure r:=by
 have hb:=Et he
 have hk:env.kindOf=fun x=>sc.lookup x:=by funext x;unfold Env.kindOf;rw [he.names]
 unfold swappedStores
 rw [hb,hk]
 have pr:∀{x:Option (List Str)},some x=some r→(pure x:Sem (Option (List Str)))=pure r:=fun e=>congrArg pure (Option.some.inj e)
 exact qD h pr fun h=>qD h pr fun h=>qD h pr fun h=>qD h pr fun h=>qD h (fun e=>nomatch e) pr
theorem Ew{sc:SC}{e t:Expr}(hn:sU e=true){env:Env}(he:cj env sc){l:Nat}:swapsWith e (some t) l env=pure (nU sc e t):=by
 induction e using PySem.Expr.casesOn with
 | ListComp a b scope p=>
  induction t using PySem.Expr.casesOn with
  | Name x xp=>
   show (pure (env.blockKind== .function && env.kindOf x==some .local && xp.line==(Expr.ListComp a b scope p).pos.line && !(scope.names.any fun (n,k)=>n==x && (k== .local || k== .cell))):Sem Bool)=_
   rw [Et he]
   unfold Env.kindOf
   rw [he.names]
   rfl
  | _=>rfl
 | SetComp=>exact absurd hn Bool.false_ne_true
 | DictComp=>exact absurd hn Bool.false_ne_true
 | _=>rfl
section
variable{prog:Program}{w:World}{YC:Heap}{K:Frag}{T:Tab}
theorem Q7{sc:SC}{e:Expr}{p:Pos}{x:X}(hx:SE prog w YC T sc e x)(hn:v5 e=true):SS prog w YC T sc (.Expr e p) (.expr x):=by
 intro env C d N hd fr loc H Q E he hc _ hw A own s Q' E' I F ks kx
 refine wpAny_Expr_any (hx env C d hd fr loc H _ _ he hc hw A own s _ E' I F (fun v H1 YF h1 tk1 val hw1 O1 X1 r1=> ?_) (kx.at F)) (Q6 he) (Q5 hn)
 exact ks _ _ _ _ _ tk1 _ hw1 O1 X1.any (F.keep X1) .next
theorem Q8{sc:SC}{t e:Expr}(h:pX sc t e=some none){env:Env}(he:cj env sc):swappedStores [t] e env=pure none:=by
 induction t using PySem.Expr.casesOn with
 | Tuple ts k p=>
  induction e using PySem.Expr.casesOn with
  | Tuple vs k2 p2=>exact Eu h he
  | _=>rfl
 | List ts p=>exact nomatch h
 | _=>rfl
theorem Q9{sc:SC}{t e:Expr}{p:Pos}{tt:Tgt}{x:X}(ht:ST prog w YC T sc t tt)(hx:SE prog w YC T sc e x)(hn:sU e=true)(hs:nU sc e t=false)(hw':pX sc t e=some none)(hstar:fQ t=true):SS prog w YC T sc (.Assign [t] e p) (.assign tt x):=by
 intro env C d N hd fr loc H Q E he hc _ hw A own s Q' E' I F ks kx
 refine wpAny_Assign_stores (hx env C d hd fr loc H _ _ he hc hw A own s _ E' I F (fun v H1 YF h1 tk1 val hw1 O1 X1 r1=> ?_) (kx.at F)) ?_ (Q8 hw' he)
 ·have e1:((assignEach [t] env).map (·.2))= [assign t env]:=by induction t using PySem.Expr.casesOn<;>first | rfl | exact absurd hstar Bool.false_ne_true
  rw [e1]
  show wpAny _ _ (assign t env val) _ _ _
  refine ht env C d hd fr loc H1 v _ _ he hc hw1 A YF _ val _ E' (I.step O1 X1) (F.keep X1) r1 (fun loc' H2 own2 h2 tk2 hw2 O2 X2 F2=> ?_) ((kx.step X1.any).at (F.keep X1))
  exact ks _ _ _ _ _ tk2 _ hw2 O2 (X1.any.trans X2) F2 .next
 ·show swapsWith e (some t) p.line env=_
  rw [Ew hn he,hs]
theorem Ey{y:String}:∀{ps:List (String×V)} {loc:Loc},(∀p∈ps,p.1≠y)→Mine.get (ps.foldl (fun l p=>put l p.1 p.2) loc) y=Mine.get loc y
 | [],_,_=>rfl
 | p::r,loc,h=>by
  rw [List.foldl_cons,Ey fun q hq=>h q (List.mem_cons_of_mem _ hq),cD,if_neg (h p List.mem_cons_self)]
theorem t8{y:String}:∀{ps:List (String×V)} {loc:Loc},(ps.map (·.1)).Nodup→Mine.get (ps.foldl (fun l p=>put l p.1 p.2) loc) y=((ps.find? fun p=>p.1==y).map (·.2)).or (Mine.get loc y)
 | [],loc,_=>by simp
 | p::r,loc,hn=>by
  rw [List.map_cons,List.nodup_cons] at hn
  rw [List.foldl_cons,List.find?_cons]
  by_cases q:p.1=y
  ·have:(p.1==y)=true:=by simpa using q
   rw [this]
   rw [Ey fun z hz=>fun e=>hn.1 (List.mem_map.mpr ⟨z,hz,by rw [e,q]⟩),cD,if_pos q]
   rfl
  ·have:(p.1==y)=false:=by simpa using q
   rw [this,t8 hn.2,cD,if_neg q]
theorem Ez{y:String}:∀{ps:List (String×V)},(ps.map (·.1)).Nodup→(ps.reverse.find? fun p=>p.1==y)=ps.find? fun p=>p.1==y
 | [],_=>rfl
 | p::r,hn=>by
  rw [List.map_cons,List.nodup_cons] at hn
  rw [List.reverse_cons,List.find?_append,Ez hn.2,List.find?_cons]
  by_cases q:p.1=y
  ·have e1:(p.1==y)=true:=by simpa using q
   have e2:(r.find? fun p=>p.1==y)=none:=by
    rw [List.find?_eq_none]
    intro z hz
    simp only [beq_iff_eq]
    exact fun e=>hn.1 (List.mem_map.mpr ⟨z,hz,by rw [e,q]⟩)
   rw [e2,List.find?_cons,e1];rfl
  ·have e1:(p.1==y)=false:=by simpa using q
   rw [e1,List.find?_cons,e1]
   induction e:r.find? fun p=>p.1==y using Option.casesOn with
   | none=>rfl
   | some _=>rfl
theorem EY{M:Model}{A:Around}{E':Value→Shared→Prop}{env:Env}{sc:SC}(he:cj env sc){H:MH}{own:ak}:∀{ps:List (String×V)} {YG:List Value} {s:Shared} {loc:Loc} {Q':Unit→Shared→Prop},
  (∀p∈ps,sc.lookup (nm p.1)=some .local)→Ok prog w T YC own H s.heap→FO YC env own s.heap loc→aB own s.heap (ps.map (·.2)) YG→
  (∀h' tk,Ok prog w T YC own H h'→aH (bQ env) own H s.heap own H h'→FO YC env own h' (ps.foldl (fun l p=>put l p.1 p.2) loc)→Q' () (aF s h' tk))→
  wpAny M A (assignInOrder (ps.map fun p=>bindName env (nm p.1)) YG) Q' E' s
 | [],YG,s,loc,Q',_,O,F,r,hQ=>by
  cases r
  exact wpAny_pure (hQ _ s.toks O .refl F)
 | p::ps,YG,s,loc,Q',hl,O,F,r,hQ=>by
  rw [List.map_cons] at r
  refine aB.k_cons r fun zz zz a r=> ?_
  show wpAny _ _ (do holding _ (bindName env (nm p.1) _);assignInOrder _ _) _ _ s
  refine wpAny_bind (wpAny_holding (wpAny_bindName (oK he (.inl (hl p List.mem_cons_self)) O F a fun h1 tk1 O1 X1 F1=> ?_)))
  exact EY he (fun q hq=>hl q (List.mem_cons_of_mem _ hq)) O1 F1 (r.keep X1.tup) fun h2 tk2 O2 X2 F2=>hQ h2 tk2 O2 (X1.trans X2) F2
theorem xD{α β:Type}:∀{xs:List α} {ys:List β},ys.length=xs.length→(xs.zip ys).map (·.1)=xs∧(xs.zip ys).map (·.2)=ys
 | [],[],_=>⟨rfl,rfl⟩
 | [],_::_,h=>nomatch h
 | _::_,[],h=>nomatch h
 | x::xs,y::ys,h=>by
  obtain ⟨a,b⟩:=xD (xs:=xs) (ys:=ys) (by simpa using h)
  simp [a,b]
theorem aB.reverse{own:ak}{h:Heap}:∀{xs:List V} {vs:List Value},aB own h xs vs→aB own h xs.reverse vs.reverse
 | _,_, .nil=> .nil
 | _,_, .cons a r=>by rw [List.reverse_cons,List.reverse_cons];exact r.reverse.append (.cons a .nil)
theorem Ra{sc:SC}{ts vs:List Expr}{k k2:Nat}{tp vp p:Pos}{x:X}{xs:List String}(hx:SE prog w YC T sc (.Tuple vs k2 vp) x)(hs:v6 sc ts vs=some (some (xs.map nm)))(hnd:xs.Nodup)(hl:∀y∈xs,sc.lookup (nm y)=some .local):
  SS prog w YC T sc (.Assign [.Tuple ts k tp] (.Tuple vs k2 vp) p) (.assign (.names xs) x):=by
 intro env C d N hd fr loc H Q E he hc _ hw A own s Q' E' I F ks kx
 rw [exec_Assign_arm]
 refine wpAny_bind (wpAny_standAt ?_)
 refine wpAny_bind (m:=pure false) (wpAny_pure ?_)
 rw [if_neg Bool.false_ne_true]
 refine wpAny_bind (hx env C d hd fr loc H _ _ he hc hw A own s _ E' I F (fun v H1 YF h1 tk1 val hw1 O1 X1 r1=> ?_) (kx.at F))
 rw [Eu hs he]
 refine wpAny_bind (wpAny_pure ?_)
 unfold assignStores
 dsimp only
 refine wpAny_bind (wpAny_rule ?_)
 obtain ⟨us,src,hi,hsrc,hlen,hq⟩:=Eh hw1
 rw [List.length_map]
 refine wpAny_bind (Eg I.ao.handled (I.hk.keep X1.exc) O1 hi hsrc r1 hlen.symm fun own2 h2 tk2 YG O2 X2 r2=> ?_)
 obtain ⟨z1,z2⟩:=xD hlen
 have hnd':((xs.zip us).map (·.1)).Nodup:=by rw [z1];exact hnd
 have e1:((xs.map nm).reverse.map fun n=>bindName env n)=(xs.zip us).reverse.map fun p=>bindName env (nm p.1):=by
  rw [List.map_reverse,List.map_reverse,List.map_map]
  congr 1
  conv=>lhs;rw [←z1]
  rw [List.map_map]
  rfl
 refine wpAny_bind ?_
 rw [e1]
 refine EY he (ps:=(xs.zip us).reverse) (fun q hq'=> ?_) O2 ((F.keep X1).keep X2) ?_ fun h3 tk3 O3 X3 F3=>wpAny_pure ?_
 ·have:q.1∈(xs.zip us).map (·.1):=List.mem_map.mpr ⟨q,List.mem_reverse.mp hq',rfl⟩
  rw [z1] at this
  exact hl _ this
 ·rw [List.map_reverse,z2];exact r2.reverse
 ·refine ks _ _ _ _ _ tk3 _ hq O3 ((X1.trans X2).any.trans X3) (F3.congr fun y=> ?_) .next
  unfold nQ;rw [t8 hnd',t8 (by rw [List.map_reverse];exact (List.reverse_perm _).nodup_iff.mpr hnd'),Ez hnd']
theorem Fb{op:Bop}{o:Operator}(ho:jt o=some op){A:Around}{own:ak}{H:MH}{s:Shared}{a b:V}{va vb:Value}{Q:Q1}{Q':Value→Shared→Prop}{E':Value→Shared→Prop}(hw:nM op a b H Q)(ra:VR own s.heap a va)(rb:VR own s.heap b vb)
  (hQ:∀v val tk,Q v H→VR own s.heap v val→Q' val (aF s s.heap tk)):wpAny (model prog w) A (inplaceOp o va vb) Q' E' s:=by
 refine aa.el hw fun x hx h1=>aa.el h1 fun y hy h2=>aa.el h2 fun z hz h3=> ?_
 obtain rfl:=dN hx;obtain rfl:=dN hy
 refine VR.k_int ra fun t=>VR.k_int rb fun u=> ?_
 induction op using Bop.casesOn<;>cases hz
 ·obtain rfl:=(show o= .Add from lB ho)
  exact AutoIntOps.iadd_0 (hQ _ _ _ h3 (.int _ _))
 ·obtain rfl:=(show o= .Sub from lB ho)
  exact AutoIntOps.isub_0 (hQ _ _ _ h3 (.int _ _))
end
section
variable{prog:Program}{w:World}{YC:Heap}{K:Frag}{T:Tab}
theorem Rb{sc:SC}{scope:Scope}{pos p yp:Pos}{it elt:Expr}{ifs:List Expr}{x y:String}{xp:Pos}{xe xi:X}{xs:List X}{rng:Bool}
  (hi:SI prog w YC T sc it rng xi) (hifs:dq prog w YC T (cZ sc scope.names) ifs xs) (helt:SE prog w YC T (cZ sc scope.names) elt xe) (hkind:scope.kind= .function) (hx:scope.names.lookup (nm x)=some .local)
  (hloc:∀y∈scope.names,y.2= .local→y.1=nm x∨y.1=nm ".0"∧scope.names.lookup y.1=some .local) (hcell:∀y∈scope.names,y.2≠ .cell) (hfree:∀y∈scope.names,y.2= .free→sc.lookup y.1=some .cell) (hns:gq it=true)
  (hy:sc.lookup (nm y)=some .local) (hsw:nU sc (.ListComp elt [⟨.Name (nm x) xp,it,ifs,0⟩] scope pos) (.Name (nm y) yp)=true):
  SS prog w YC T sc (.Assign [.Name (nm y) yp] (.ListComp elt [⟨.Name (nm x) xp,it,ifs,0⟩] scope pos) p) (.assign (.name y) (.comp xe x rng xi xs)):=by
 intro env C d N hd fr loc H Q E he hc _ hw A own s Q' E' I F ks kx
 rw [exec_Assign_Name_used _ _ _ _ (by rw [Ew rfl he,hsw])]
 refine wpAny_bind (wpAny_standAt (wpAny_bind ?_))
 show wpAny _ A (do let _←comprehension (.ListComp elt [⟨.Name (nm x) xp,it,ifs,0⟩] scope pos) scope env _ (newList []) false (eval it env) (some (assign (.Name (nm y) yp) env))) _ _ s
 refine wpAny_bind (wpAny_mono (Q4 (Q':=fun zz s'=>Q' .next s') (Q:=fun l H'=>Q .next l H') hi hifs helt hkind hx hloc hcell hfree hns hy he hc hw I F (fun loc' H2 own2 h2 tk2 q O2 X2 F2=>ks _ _ _ _ _ tk2 _ q O2 X2 F2 .next) (kx.at F)) (fun zz s' hq=>wpAny_pure (wpAny_pure hq)) fun zz zz e=>e)
theorem Rc{sc:SC}{x:String}{np p:Pos}{o:Operator}{op:Bop}{e:Expr}{xe:X}(hl:lC sc x)(hz:x≠".0")(hx:SE prog w YC T sc e xe)(ho:jt o=some op):SS prog w YC T sc (.AugAssign (.Name (nm x) np) o e p) (.augName x op xe):=by
 intro env C d N hd fr loc H Q E he hc _ hw A own s Q' E' I F ks kx
 refine aa.el hw ?_;clear hw;intro old hold hw
 have load:∀{Q2:Value→Shared→Prop},(∀val,VR own s.heap old val→Q2 val s)→wpAny (model prog w) A (loadName env (nm x)) Q2 E' s:=fun k=>by
  have hl':=hl
  unfold lC at hl'
  rw [←he.names] at hl'
  rcases hl' with hl' | hl'
  ·obtain ⟨m,n1,n2⟩:=F.ns
   obtain ⟨val,a,b⟩:=n2 x old hold hl' hz
   exact wpAny_loadName_local he.kind hl' n1.ns a (k val b)
  ·obtain ⟨c,ob,vo,q1,q2,q3,q4,q6,q7⟩:=F.cell (nm x) hl'
   obtain ⟨val,r1,r2⟩:=q7 x old rfl hold
   subst r1
   exact wpAny_loadName_cell he.kind hl' q1 ⟨ob,q4,q6⟩ (k val r2)
 refine wpAny_AugAssign_Name (load fun oval ro=>hx env C d hd fr loc H _ _ he hc hw A own s _ E' I F (fun v H1 YF h1 tk1 val hw1 O1 X1 r1=> ?_) (kx.at F))
 refine Fb ho hw1 (ro.keep X1.tup) r1 fun u uval tk2 hq r2=> ?_
 exact oK (s:=(aF s h1 tk2)) (Q':=fun zz s'=>Q' .next s') he hl O1 (F.keep X1) r2 fun h3 tk3 O3 X3 F3=>ks _ _ _ _ _ tk3 _ hq O3 (X1.any.trans X3) F3 .next
theorem Rd(G:Gd prog w YC K T){sc:SC}{b e:Expr}{n:String}{tp p:Pos}{o:Operator}{op:Bop}{xb xe:X}(hb:SE prog w YC T sc b xb)(hx:SE prog w YC T sc e xe)(ho:jt o=some op):SS prog w YC T sc (.AugAssign (.Attribute b (nm n) tp) o e p) (.augAttr xb n op xe):=by
 intro env C d N hd fr loc H Q E he hc _ hw A own s Q' E' I F ks kx
 refine wpAny_AugAssign_AttributeAny (hb env C d hd fr loc H _ _ he hc hw A own s _ E' I F (fun ov H1 YF h1 tk1 oval hw1 O1 X1 r1=> ?_) (kx.at F))
 refine aa.el hw1 fun old hold hw2=> ?_
 refine DQ G hold (Q:=fun v' H'=>v'=old∧H'=H1) ⟨rfl,rfl⟩ O1 r1 fun v' H' own2 h2 tk2 val hq O2 X2 r2=> ?_
 obtain ⟨rfl,rfl⟩:=hq
 have X12:=X1.trans X2
 refine hx env C d hd fr loc H' _ _ he hc hw2 A own2 _ _ E' (I.step O2 X12) (F.keep X12) (fun v H3 own3 h3 tk3 val3 hw3 O3 X3 r3=> ?_) ((kx.step X12.any).at (F.keep X12))
 have X13:=X12.trans X3
 refine Fb ho hw3 (r2.keep X3.tup) r3 fun u uval tk4 hq r4=> ?_
 refine aa.el hq fun H4 hset hq4=> ?_
 exact DR G hset O3 ((r1.keep X2.tup).keep X3.tup) r4 fun own5 h5 tk5 O5 X5=>ks _ _ _ _ _ tk5 _ hq4 O5 (X13.trans X5).any (F.keep (X13.trans X5)) .next
theorem Rf{sc:SC}{e:Expr}{p:Pos}{x:X}(hx:SE prog w YC T sc e x):SS prog w YC T sc (.Return (some e) p) (.ret x):=by
 intro env C d N hd fr loc H Q E he hc _ hw A own s Q' E' I F ks kx
 exact wpAny_Return_some (hx env C d hd fr loc H _ _ he hc hw A own s _ E' I F (fun v H1 YF h1 tk1 val hw1 O1 X1 r1=>ks _ _ _ _ _ tk1 _ hw1 O1 X1.any (F.keep X1) (.ret r1)) (kx.at F))
theorem Rg{sc:SC}{p:Pos}:SS prog w YC T sc (.Return none p) (.ret (.k .none)):=by
 intro env C d N hd fr loc H Q E he hc _ hw A own s Q' E' I F ks kx
 exact wpAny_Return_none (ks _ _ _ _ _ s.toks _ hw I.ok .refl F (.ret .none))
theorem Rh{sc:SC}{p:Pos}:SS prog w YC T sc (.Continue p) .cont:=by
 intro env C d N hd fr loc H Q E he hc _ hw A own s Q' E' I F ks kx
 exact wpAny_Continue (ks _ _ _ _ _ s.toks _ hw I.ok .refl F .cont)
theorem Ri{sc:SC}{c:Expr}{a b:List Stmt}{p:Pos}{x:X}{xa xb:List St}(hx:fc prog w YC T sc c x)(ha:gQ prog w YC T sc a xa)(hb:gQ prog w YC T sc b xb):SS prog w YC T sc (.If c a b p) (.cond x xa xb):=by
 intro env C d N hd fr loc H Q E he hc ht hw A own s Q' E' I F ks kx
 refine wpAny_If (hx env C d hd fr loc H _ _ he hc hw A own s _ E' I F (fun v H1 YF h1 tk1 va hw1 O1 X1 r1=> ?_) (kx.at F))
 subst r1
 induction v using Bool.casesOn with
 | true=>exact ha env C d N hd fr loc H1 Q E he hc ht hw1 A YF _ Q' E' (I.step O1 X1) (F.keep X1) (ks.step X1.any) (kx.step X1.any)
 | false=>exact hb env C d N hd fr loc H1 Q E he hc ht hw1 A YF _ Q' E' (I.step O1 X1) (F.keep X1) (ks.step X1.any) (kx.step X1.any)
theorem Rj{sc:SC}:gQ prog w YC T sc [] []:=by
 intro env C d N hd fr loc H Q E he hc ht hw A own s Q' E' I F ks kx
 exact wpAny_execs_nil (ks _ _ _ _ _ s.toks _ hw I.ok .refl F .next)
theorem Rk{sc:SC}{st:Stmt}{sts:List Stmt}{x:St}{xs:List St}(hx:SS prog w YC T sc st x)(hr:gQ prog w YC T sc sts xs):gQ prog w YC T sc (st::sts) (x::xs):=by
 intro env C d N hd fr loc H Q E he hc ht hw A own s Q' E' I F ks kx
 refine wpAny_execs_cons (hx env C d N hd fr loc H _ _ he hc ht hw A own s _ E' I F (fun fl loc1 H1 YF h1 tk1 flow hw1 O1 X1 F1 r1=> ?_) kx)
 cases r1 with
 | next=>exact hr env C d N hd fr loc1 H1 Q E he hc ht hw1 A YF _ Q' E' (I.stepF O1 X1 F F1) F1 (ks.step X1) (kx.step X1)
 | cont=>exact ks _ _ _ _ _ tk1 _ hw1 O1 X1 F1 .cont
 | ret r=>exact ks _ _ _ _ _ tk1 _ hw1 O1 X1 F1 (.ret r)
end
section
variable{prog:Program}{w:World}{YC:Heap}{K:Frag}{T:Tab}
theorem qF{env:Env}{fr:List Env}{hd:Option Nat}{d:Nat}{A A1 A2:Around}{own:ak}{H:MH}{s:Shared}{loc:Loc}{E:ES}{E':Value→Shared→Prop}(I:bF prog w YC T fr hd d A own H s.heap)(ht:∃outer,fr=env::outer)(hA:A1.frames=A.frames)(F:FO YC env own s.heap loc)
  (kx:KX prog w YC T env own H s E E'):KX prog w YC T env own H s E (notedBy (model prog w) A1 env (cameBackBy (model prog w) A2 env E')):=by
 intro a loc' H' YD h' tk q i O X F'
 obtain ⟨outer,rfl⟩:=ht
 have ff:=I.ff.keepF X F F'
 obtain ⟨_,L,m,hf,_⟩:=I.ff env List.mem_cons_self
 show wpAny _ _ (noteFrame (.ref a) env) _ _ _
 refine oO (outer:=outer) (hA.trans I.ao.frames) ff hf O i fun own2 h2 O2 X2 tb=> ?_
 show wpAny _ _ _ _ _ _
 obtain ⟨ob,vs,t,ot,ts,x,z1,z2,z3,z4,z5,z6⟩:=id tb
 refine wpAny_bind (wpAny_field x.obj x.data z1 ?_)
 rw [if_neg (by simp)]
 refine lE O2 i _ fun h3 O3 X3 zz=> ?_
 exact kx a loc' H' own2 h3 tk q i O3 ((X.trans X2.any).trans X3.any) ((F'.keep X2).keep X3)
inductive Fd(prog:Program)(w:World)(YC:Heap)(T:Tab)(go:Nat→Loc→MH→Prop)(own:ak)(H:MH)(env:Env)(s:Shared)(n:Nat)(s':Shared):Prop
 | mk (YD:ak) (loc':Loc) (H':MH) (h':Heap) (tk:Nat):s'=aF s h' tk→go n loc' H'→Ok prog w T YC YD H' h'→aH (bQ env) own H s.heap YD H' h'→FO YC env YD h' loc'→Fd prog w YC T go own H env s n s'
theorem Rm{sc:SC}{c:Expr}{body:List Stmt}{p:Pos}{x:X}{xb:List St}(hx:fc prog w YC T sc c x)(hb:gQ prog w YC T sc body xb):SS prog w YC T sc (.While c body [] p) (.loop x xb):=by
 intro env C d N hd fr loc H Q E he hc ht hw A own s Q' E' I F ks kx
 refine wpAny_While ?_
 refine codeAny_whileLoop
  (Fd prog w YC T (pR (fun l h q=>wc T C hd x l h (fun q'=>we T C hd x l h q' (dm E l)) q (dm E l)) (fun l h q=>b8 T C N hd xb l h q E) Q) own H env s) ?_ N
  (.mk own loc H s.heap s.toks rfl hw I.ok .refl F)
 rintro n s' ⟨YD,loc',H',h',tk,rfl,go,O,X,F'⟩
 induction n using Nat.casesOn with
 | zero=>exact go.elim
 | succ n=>
  have I':=I.stepF O X F F'
  have kx':KX prog w YC T env YD H' (aF s h' tk) E (notedBy (model prog w) A env fun e s'=>cameBackBy (model prog w) A env E' e s'):=qF (s:=(aF s h' tk)) I' ht rfl F' (kx.step X)
  refine hx env C d hd fr loc' H' _ _ he hc go A YD _ _ _ I' F' (fun v H1 YF h1 tk1 va hw1 O1 X1 r1=> ?_) (kx'.at F')
  subst r1
  have I1:=I'.step O1 X1
  have F1:=F'.keep X1
  have kx1:=kx'.step (tk:=tk1) X1.any
  induction v using Bool.casesOn with
  | false=>
   rw [if_neg Bool.false_ne_true]
   exact wpAny_execs_nil (ks _ _ _ _ _ tk1 _ hw1 O1 (X.trans X1.any) F1 .next)
  | true=>
   rw [if_pos rfl]
   refine hb env C d N hd fr loc' H1 _ _ he hc ht hw1 A YF _ _ _ I1 F1 (fun fl loc2 H2 own2 h2 tk2 flow hw2 O2 X2 F2 r2=> ?_) kx1
   have X02:=(X.trans X1.any).trans X2
   cases r2 with
   | next=>exact ⟨n,Nat.lt_succ_self n, .mk own2 loc2 H2 h2 tk2 rfl hw2 O2 X02 F2⟩
   | cont=>exact ⟨n,Nat.lt_succ_self n, .mk own2 loc2 H2 h2 tk2 rfl hw2 O2 X02 F2⟩
   | ret r=>exact ks _ _ _ _ _ tk2 _ hw2 O2 X02 F2 (.ret r)
theorem Fe{A:Around}{s:Shared}{R:Result→Shared→Prop}{target it body orelse env}(I:Nat→Shared→Prop)
  (turn:∀n s,I n s→wpAny (model prog w) A (pyNext it) (fun r s₁=>match r with
   | none=>wpAny (model prog w) A (execs orelse env) (fun f s₃=>R (.ok f) s₃) (notedBy (model prog w) A env fun e s'=>R (.error e) s') s₁
   | some v=>wpAny (model prog w) A (letOwnedTupleGo target it v) (fun zz s₁'=>wpAny (model prog w) A (assign target env v) (fun zz s₂=>wpAny (model prog w) A (execs body env) (fun f s₃=>match f with
     | .next | .cont=>∃m,m<n∧I m s₃
     | .brk=>R (.ok .next) s₃
     | .ret v=>R (.ok (.ret v)) s₃) (notedBy (model prog w) A env fun e s'=>R (.error e) s') s₂) (notedBy (model prog w) A env fun e s'=>R (.error e) s') s₁') (notedBy (model prog w) A env fun e s'=>R (.error e) s') s₁) (notedBy (model prog w) A env fun e s'=>R (.error e) s') s)
  (n:Nat) (h:I n s):codeAny (model prog w) A (.forLoop target it body orelse env) R s:=by
 refine codeAny_loop' rfl I (fun n s hI=> ?_) n h
 show wpAny _ _ ((forTurn target it body orelse env).onRaise (fun x=>do noteFrame x env;theTreesLotGoes x)) _ _ s
 refine wpAny_noted ?_
 simp only [forTurn]
 refine wpAny_bind (wpAny_standAt (wpAny_bind (wpAny_onRaise (wpAny_mono (turn n s hI) (fun r s₁ h₁=> ?_) fun zz zz h'=>wpAny_standAt h'))))
 induction r using Option.casesOn with
 | none=>exact wpAny_pure (.inr ⟨rfl,codeAny_block h₁⟩)
 | some v=>
  refine wpAny_bind (wpAny_mono h₁ (fun zz s₁' h₁=> ?_) fun zz zz h'=>h')
  refine wpAny_bind (wpAny_mono h₁ (fun zz s₂ h₂=>wpAny_bind (wpAny_mono h₂ (fun f s₃ h₃=> ?_) fun zz zz h'=>h')) fun zz zz h'=>h')
  induction f using PySem.Flow.casesOn with
  | next=>exact wpAny_pure (.inl ⟨rfl,h₃⟩)
  | cont=>exact wpAny_pure (.inl ⟨rfl,h₃⟩)
  | brk=>exact wpAny_pure h₃
  | ret v=>exact wpAny_pure h₃
theorem Rn{A:Around}{own:ak}{s:Shared}{E':Value→Shared→Prop}{target:Expr}{It:Addr}{v:Value}{rng:Bool}{u:V}{items:List V}{i:Nat}{Q:Unit→Shared→Prop}(x:cQ own s.heap It rng u items i)(h:Q () s):wpAny (model prog w) A (letOwnedTupleGo target (.ref It) v) Q E' s:=by
 have key:wpAny (model prog w) A (do
   let (.ref r, .ref a):=(Value.ref It,v) | return
   let o←load r
   match o.cls,o.data with
   | .type n, .fields vs=>
    if ["enumerate","zip","dict_itemiterator","dict_reverseitemiterator","odict_iterator","itertools.zip_longest","itertools.pairwise"].contains n && vs[0]? ==some (rawInt a) then
     rule "for.unpacks-the-owned-tuple"
     updateField r 0 .none
   | _,_=>pure ()) Q E' s:=by
  induction v using PySem.Value.casesOn with
  | ref a=>
   cases x with
   | list q=>obtain ⟨o,e,c,d⟩:=q;refine wpAny_bind (wpAny_load e ?_);rw [c,d];exact wpAny_pure h
   | tup q=>obtain ⟨o,e,c,d⟩:=q;refine wpAny_bind (wpAny_load e ?_);rw [c,d];exact wpAny_pure h
   | rng _ q=>refine wpAny_bind (wpAny_load q ?_);exact wpAny_pure h
  | _=>exact wpAny_pure h
 induction target using PySem.Expr.casesOn with
 | Tuple _ _ _=>exact key
 | List _ _=>exact key
 | _=>exact wpAny_pure h
inductive Ff(prog:Program)(w:World)(YC:Heap)(T:Tab)(go:List V→Loc→MH→Prop)(items:List V)(own:ak)(H:MH)(It:Addr)(rng:Bool)(v:V)(env:Env)(s:Shared)(n:Nat)(s':Shared):Prop
 | mk (YD:ak) (loc':Loc) (H':MH) (h':Heap) (tk i:Nat):s'=aF s h' tk→n=items.length - i→i≤items.length→go (items.drop i) loc' H'→Ok prog w T YC YD H' h'→aH (bQ env) own H s.heap YD H' h'→FO YC env YD h' loc'→
   cQ YD h' It rng v items i→YD It=none→Ff prog w YC T go items own H It rng v env s n s'
theorem Fg{env:Env}{oA oB:ak}{hA hB:Heap}{HA HB:MH}{It:Addr}{rng:Bool}{v:V}{items:List V}{n:Nat}(nI: ¬bQ env It)(Y:aH (bQ env) oA HA hA oB HB hB)(o:oA It=none)(j:cQ oA hA It rng v items n):cQ oB hB It rng v items n∧oB It=none:=by
 obtain ⟨ob,eb,_,_⟩:=j.obj
 refine ⟨j.keep Y.tup fun o' eo nf=> ?_,by rw [Y.same It _ eb];exact o⟩
 obtain ⟨sl,q1,q2⟩:=Y.keep It o' eo o nI
 rcases q2 with q2 | q2
 ·exact absurd q2 nf
 ·subst q2;exact q1
theorem Ro{sc:SC}{t it:Expr}{body:List Stmt}{p:Pos}{tt:Tgt}{rng:Bool}{xi:X}{xb:List St}(hi:SI prog w YC T sc it rng xi)(htt:ST prog w YC T sc t tt)(hb:gQ prog w YC T sc body xb)(hns:gq it=true):SS prog w YC T sc (.For t it body [] p) (.each tt rng xi xb):=by
 intro env C d N hd fr loc H Q E he hc ht hw A own s Q' E' I F ks kx
 refine wpAny_For (hi env C d hd fr loc H _ _ he hc hw A own s _ E' I F (fun v H1 q=> ?_) (fun v H1 YF h1 tk1 It items src hq hitems O1 X1 T1 oI fI bI=> ?_) (kx.at F)) (Ei hns)
 ·exact aa.el q fun p e zz=>by rw [e];rfl
 have hq:aa (fO H1 rng v) _:=hq
 rw [hitems] at hq
 have nI: ¬bQ env It:=by
  rintro (q | ⟨y,k,q⟩)
  ·obtain ⟨m,⟨o,_,_,e,_⟩,_⟩:=F.ns
   rw [←q,fI] at e;exact aG e
  ·obtain ⟨c,o,vo,q1,q2,q3,q4,_⟩:=F.cell y k
   rw [q] at q1;obtain rfl:=Option.some.inj q1;rw [fI] at q4;exact aG q4
 refine Fe
  (Ff prog w YC T (pQ src (fun w l h q=>wt T C hd tt w l h (fun l' h'=>b8 T C N hd xb l' h' q jP) eG) Q) items own H It rng v env s) ?_ items.length
  (.mk YF loc H1 h1 tk1 0 rfl rfl (Nat.zero_le _) hq O1 X1.any (F.keep X1) T1 oI)
 rintro n s' ⟨YD,loc',H',h',tk,i,rfl,rfl,hil,go,O,X,F',It',oI'⟩
 have I':=I.stepF O X F F'
 have hsrc:src H':=by
  induction hd':items.drop i using List.casesOn with
  | nil=>rw [hd'] at go;exact go.1
  | cons a b=>rw [hd'] at go;exact go.1
 obtain ⟨oIt,eIt,ntI,fsI,dI⟩:=It'.obj
 have hLI: ¬(env.locals=It):=fun q=>nI (.inl q.symm)
 refine t6 O I'.hg hitems hsrc It' oI' (fun y val h2 tk2 e r It2 sb=> ?_) fun e h2 eb hh=> ?_
 ·have hlt:i<items.length:=by
   rcases Nat.lt_or_ge i items.length with q | q
   ·exact q
   ·rw [List.getElem?_eq_none q] at e;exact aG e
  have hdrop:items.drop i=y::items.drop (i+1):=by
   rw [List.getElem?_eq_some_iff] at e
   obtain ⟨z1,z2⟩:=e
   rw [List.drop_eq_getElem_cons z1,z2]
  rw [hdrop] at go
  obtain ⟨_,go⟩:=go
  obtain ⟨o2,e2,_,_⟩:=It2.obj
  obtain ⟨O2,Y2⟩:=O.other eIt sb oI' bI ntI ⟨o2,e2⟩ (F:=(· =It)) rfl
  have X2:aH (bQ env) own H s.heap YD H' h2:=X.trans_new Y2 (by rintro a rfl;exact fI)
  have F2:FO YC env YD h2 loc':=F'.keepG Y2 hLI (by rintro a rfl;exact ⟨_,eIt,fun v z=>by rw [dI] at z;injection z⟩)
  have I2:bF prog w YC T fr hd d A YD H' h2:=I.stepF O2 X2 F F2
  refine Rn It2 ?_
  refine htt env C d hd fr loc' H' y _ _ he hc go A YD _ val _ _ I2 F2 r (fun loc3 H3 own3 h3 tk3 hw3 O3 X3 F3=> ?_) fun zz zz zz zz zz z=>z.elim
  obtain ⟨It3,oI3⟩:=Fg nI X3 oI' It2
  refine hb env C d N hd fr loc3 H3 _ jP he hc ht hw3 A own3 _ _ _ (I2.stepF O3 X3 F2 F3) F3 (fun fl loc4 H4 own4 h4 tk4 flow hw4 O4 X4 F4 r4=> ?_) fun zz zz zz zz zz zz z=>z.elim
  obtain ⟨It4,oI4⟩:=Fg nI X4 oI3 It3
  have X04:=(X2.trans X3).trans X4
  cases r4 with
  | next=>exact ⟨items.length - (i+1),Nat.sub_succ_lt_self _ _ hlt, .mk own4 loc4 H4 h4 tk4 (i+1) rfl rfl hlt hw4 O4 X04 F4 It4 oI4⟩
  | cont=>exact ⟨items.length - (i+1),Nat.sub_succ_lt_self _ _ hlt, .mk own4 loc4 H4 h4 tk4 (i+1) rfl rfl hlt hw4 O4 X04 F4 It4 oI4⟩
  | ret r=>exact ks _ _ _ _ _ tk4 _ hw4 O4 X04 F4 (.ret r)
 ·obtain ⟨O2,Y2⟩:=O.but eIt eb oI' bI ntI hh (F:=(· =It)) rfl
  have X2:aH (bQ env) own H s.heap YD H' h2:=X.trans_new Y2 (by rintro a rfl;exact fI)
  have F2:FO YC env YD h2 loc':=F'.keepG Y2 hLI (by rintro a rfl;exact ⟨_,eIt,fun v z=>by rw [dI] at z;injection z⟩)
  have hnil:items.drop i= []:=List.drop_eq_nil_of_le (List.getElem?_eq_none_iff.mp e)
  rw [hnil] at go
  exact wpAny_execs_nil (ks _ _ _ _ _ tk _ go.2 O2 X2 F2 .next)
end
theorem Rp(env:Env)(x:Sem Value):raiseStmt env (some x) none=(do
  let xv←x
  let e←holding [] (excFromValue xv "exceptions must derive from BaseException")
  let e←if←isType xv then holding [e] (raisedFor xv e) else raisedInstance e
  setFlight e none
  raiseNew e):=by
 unfold raiseStmt
 rfl
section
variable{M:Model}{A:Around}{E:Value→Shared→Prop}
variable{nm' q:Str}{C N:Addr}{bs bm:List Value}{hdct:Bool}{sn:List Str}{sub:List Value}{ab:Bool}{col:Option Bool}{dd:Option Addr}{k0 k1 k2 k3 k5:Option Value}{newId:String}
theorem Rq{h:Heap}{g:Array GenState}{d:Drawn}{t:Nat}{os:OsState}{e:Addr}{dct:Option Addr}{vs:Array Value}{sl:Array (Option Value)}{msg:String}{Q:Value→Shared→Prop}
  (hC:h.get? C=some (excClassObj nm' q C N bs bm hdct sn sub ab col dd k0 k1 k2 k3 k5 newId)) (he:h.get? e=some {cls:= .ref C,dict:=dct,data:= .fields vs,slots:=sl}) (hbase:bm.contains (.type "BaseException")=true)
  (hq:Q (.ref e) ⟨h,g,d,t,os⟩):wpAny M A (excFromValue (.ref e) msg) Q E ⟨h,g,d,t,os⟩:=by
 have hcB:(Value.ref C::bm).contains (.type "BaseException")=true:=by rw [List.contains_cons,hbase,Bool.or_true]
 unfold excFromValue isExcClass
 repeat (first | with_reducible refine wpAny_loadPart_at he ?_ | with_reducible refine wpAny_loadPart_at hC ?_ | (with_reducible refine wpAny_isSubtype_exc hC ?_;rw [hcB]) | wp_step)
 exact hq
theorem Rr{h:Heap}{g:Array GenState}{d:Drawn}{t:Nat}{os:OsState}{e:Addr}{dct:Option Addr}{vs:Array Value}{sl:Array (Option Value)}{Q:Bool→Shared→Prop}
  (hC:h.get? C=some (excClassObj nm' q C N bs bm hdct sn sub ab col dd k0 k1 k2 k3 k5 newId)) (he:h.get? e=some {cls:= .ref C,dict:=dct,data:= .fields vs,slots:=sl})
  (hq:Q false ⟨h,g,d,t,os⟩):wpAny M A (isType (.ref e)) Q E ⟨h,g,d,t,os⟩:=by
 unfold isType
 repeat (first | with_reducible refine wpAny_loadPart_at he ?_ | with_reducible refine wpAny_loadPart_at hC ?_ | wp_step)
 exact hq
theorem Rt{h:Heap}{g:Array GenState}{d:Drawn}{t:Nat}{os:OsState}{e:Addr}{dct:Option Addr}{vs:Array Value}{sl:Array (Option Value)}{Q:Value→Shared→Prop}
  (hC:h.get? C=some (excClassObj nm' q C N bs bm hdct sn sub ab col dd k0 k1 k2 k3 k5 newId)) (he:h.get? e=some {cls:= .ref C,dict:=dct,data:= .fields vs,slots:=sl})
  (hq:Q (.ref e) ⟨h,g,d,t,os⟩):wpAny M A (raisedInstance (.ref e)) Q E ⟨h,g,d,t,os⟩:=by
 unfold raisedInstance
 repeat (first | with_reducible refine wpAny_loadPart_at he ?_ | with_reducible refine wpAny_loadPart_at hC ?_ | wp_step)
 exact hq
end
section
variable{prog:Program}{w:World}{YC:Heap}{K:Frag}{T:Tab}
set_option tactic.hygienic true in
theorem Fi(G:Gd prog w YC K T){own:ak}{H:MH}{h:Heap}(O:Ok prog w T YC own H h){a c:Nat}{fs:List (String×V)}(hH:H a=some (.exc c fs)):
  ∃dct vs sl nm' q N bs hdct sn sub ab col dd k0 k1 k2 k3 k5,h.get? a=some {cls:= .ref c,dict:=dct,data:= .fields vs,slots:=sl}∧
   h.get? c=some (excClassObj nm' q c N bs [.type "Exception", .type "BaseException", .type "object"] hdct sn sub ab col dd k0 k1 k2 k3 k5 "Exception.__new__"):=by
 obtain ⟨hown,R⟩:=O.rep _ _ hH
 cases R with
 | exc e1 e2 e3 e4 e5 e6 e7 e8 e9 e10 e11 e12 e13=>
  rename_i d m o vs
  obtain ⟨k,hk,hx⟩:=(Option.any_eq_true (p:=fun k:Cls=>k.isExc) (x:=T.cls c)).mp e10
  obtain ⟨nm,q,N,bs,hdct,sn,sub,ab,col,dd,k0,k1,k2,k3,k5,hC⟩:=(G.cls _ _ hk).excO hx
  have hC:h.get? c=some _:=(G.X.keeps O.base) _ _ hC
  have eo:o={cls:= .ref c,dict:=some d,data:= .fields vs,slots:=o.slots}:=by induction o using PySem.Obj.casesOn;simp_all
  rw [eo] at e1
  exact ⟨_,_,_,_,_,_,_,_,_,_,_,_,_,_,_,_,_,_,e1,hC⟩
 | exc0 e1 e2 e3 e4 e10 e11 e12 e13=>
  rename_i o vs
  obtain ⟨k,hk,hx⟩:=(Option.any_eq_true (p:=fun k:Cls=>k.isExc) (x:=T.cls c)).mp e10
  obtain ⟨nm,q,N,bs,hdct,sn,sub,ab,col,dd,k0,k1,k2,k3,k5,hC⟩:=(G.cls _ _ hk).excO hx
  have hC:h.get? c=some _:=(G.X.keeps O.base) _ _ hC
  have eo:o={cls:= .ref c,dict:=none,data:= .fields vs,slots:=o.slots}:=by induction o using PySem.Obj.casesOn;simp_all
  rw [eo] at e1
  exact ⟨_,_,_,_,_,_,_,_,_,_,_,_,_,_,_,_,_,_,e1,hC⟩
theorem Ru(G:Gd prog w YC K T){sc:SC}{e:Expr}{p:Pos}{x:X}(hx:SE prog w YC T sc e x):SS prog w YC T sc (.Raise (some e) none p) (.raise x):=by
 intro env C d N hd fr loc H Q E he hc ht hw A own s Q' E' I F ks kx
 rw [arm_exec_Raise]
 refine wpAny_bind (wpAny_standAt ?_)
 show wpAny _ _ (raiseStmt env (some (do let v←eval e env;standAt p;pure v)) none) _ _ _
 rw [Rp]
 refine wpAny_bind (wpAny_bind (hx env C d hd fr loc H _ _ he hc hw A own s _ E' I F (fun v H1 YF h1 tk1 val hw1 O1 X1 r1=> ?_) (kx.at F)))
 refine wpAny_bind (wpAny_standAt (wpAny_pure ?_))
 refine aa.el hw1 fun a hv h2=>aa.el h2 fun c hc' h3=> ?_
 obtain ⟨fs,hH⟩:=wZ hc'
 obtain rfl:=dD hv
 obtain rfl:=r1.e_ref
 obtain ⟨hhd,hE⟩:=h3
 obtain ⟨dct,vs,sl,nm',q,N',bs,hdct,sn,sub,ab,col,dd,k0,k1,k2,k3,k5,eA,eC⟩:=Fi G O1 hH
 have isx:c7 H1 a:=⟨c,fs,hH⟩
 obtain ⟨hp,g,dr,tk,os⟩:=s
 refine wpAny_bind (wpAny_holding (Rq eC eA (by decide) ?_))
 refine wpAny_bind (Rr eC eA ?_)
 dsimp only
 rw [if_neg Bool.false_ne_true]
 refine wpAny_bind (Rt eC eA ?_)
 refine wpAny_bind (lE (s:=⟨h1,g,dr,tk1,os⟩) O1 isx none fun h2 O2 X2 zz=> ?_)
 have fin:=kx a loc H1 YF h2 tk1 hE isx O2 (X1.trans X2).any ((F.keep X1).keep X2)
 unfold raiseNew
 refine wpAny_bind (wpAny_handled ?_)
 rw [I.ao.handled]
 induction hd using Option.casesOn with
 | none=>exact wpAny_bind (wpAny_pure (wpAny_throw fin))
 | some b=>
  obtain rfl:=(show b=a from hhd)
  dsimp only [Option.map]
  rw [if_neg (by simp)]
  exact wpAny_bind (wpAny_pure (wpAny_throw fin))
end
section
variable{prog:Program}{w:World}{YC:Heap}{K:Frag}{T:Tab}
theorem iW.sameBut{own:ak}{h h':Heap}{e u:Addr}(x:iW own h e)(sb:Heap.SameBut u h h')(hu:own u=none):iW own h' e:=by
 obtain ⟨o,vs,t,ot,ts,x,z1,z2,z3,z4,z5,z6⟩:=x
 have hne:∀a,own a=some e→a≠u:=fun a q z=>by rw [z,hu] at q;exact aG q
 refine ⟨o,vs,t,ot,ts,⟨x.mine,(sb.2 e (hne e x.mine)).trans x.obj,x.data,x.size,x.ctx, .inr ⟨t,ot,ts,z1,z2,z3,(sb.2 t (hne t z2)).trans z4,z5,z6⟩⟩,z1,z2,z3,(sb.2 t (hne t z2)).trans z4,z5,z6⟩
theorem Fj{M:Model}{A:Around}{env:Env}{sc:SC}(he:cj env sc){n:String}{pos:Pos}(hl:sc.lookup (nm n)=some .local)(hz0:n≠".0"){own:ak}{H:MH}{s:Shared}{loc:Loc}
  (O:Ok prog w T YC own H s.heap) (F:FO YC env own s.heap loc) {Q':Unit→Shared→Prop} {E':Value→Shared→Prop}
  (hQ:∀h' tk,Ok prog w T YC own H h'→aH (bQ env) own H s.heap own H h'→FO YC env own h' (del loc n)→Heap.SameBut env.locals s.heap h'→Q' () (aF s h' tk)):
  wpAny M A (do bindName env (nm n) .none;unbindBehindTheSuite env (nm n) pos) Q' E' s:=by
 have hp:(env.scope.kind== .class || (env.scope.kind== .module && env.locals !=env.globals))=false:=by rw [he.kind];rfl
 refine wpAny_bind (wpAny_bindName (qy he hl O F (v:= .none) .none fun h₁ tk₁ O₁ X₁ F₁ sb₁=> ?_))
 unfold unbindBehindTheSuite
 refine wpAny_onRaise ?_
 unfold unbindName
 refine wpAny_bind (wpAny_point (wpAny_bind ?_))
 unfold deleteName
 have hl':env.kindOf (nm n)=some .local:=by unfold Env.kindOf;rw [he.names];exact hl
 simp only [hl',hp]
 rw [if_neg (by decide)]
 obtain ⟨m,n1,n2⟩:=F₁.ns
 obtain ⟨val,hval,_⟩:=n2 n .none (by rw [cD,if_pos rfl]) hl' hz0
 refine wpAny_bind (wpAny_nsDel1 n1 fun h₂ n3 sb₂=> ?_)
 rw [hval]
 simp only [Option.isSome_some,Bool.not_true,Bool.false_eq_true,if_false]
 refine wpAny_pure (wpAny_point ?_)
 obtain ⟨oL,esL,epL,eL,dL,_⟩:=id n1
 obtain ⟨oL',_,_,eL',_⟩:=id n3
 have nt: ¬gP oL:=fun ⟨_,_,_,z⟩=>by rw [dL] at z;injection z
 obtain ⟨O2,X2⟩:=O₁.other eL sb₂ F.ownL F.oldL nt ⟨_,eL'⟩ (F:=(· =env.locals)) rfl
 refine hQ h₂ _ O2 ((X₁.mono fun zz z=> .inl z).trans (X2.mono fun zz z=> .inl z)) ⟨F.ownL,F.oldL,⟨_,n3,fun y u e k hz=> ?_⟩,fun y k=> ?_,F.apart⟩ (sb₁.trans sb₂)
 ·unfold del at e
  rw [oM] at e
  by_cases q:y=n
  ·rw [if_pos q] at e;exact aG e
  ·rw [if_neg q] at e
   obtain ⟨u',a,b⟩:=n2 y u (by rw [cD,if_neg (Ne.symm q)];exact e) k hz
   exact ⟨u',(if_neg fun z=>q (lu z)).trans a,b.keep X2.tup⟩
 ·obtain ⟨c,o,vo,q1,q2,q3,q4,q6,q7⟩:=F₁.cell y k
  have hne:c≠env.locals:=fun z=>by rw [z,eL] at q4;obtain rfl:=Option.some.inj q4;rw [dL] at q6;injection q6
  refine ⟨c,o,vo,q1,q2,q3,(sb₂.2 c hne).trans q4,q6,fun z u e g=> ?_⟩
  unfold del at g
  rw [oM] at g
  by_cases q:z=n
  ·rw [if_pos q] at g;exact aG g
  ·rw [if_neg q] at g
   obtain ⟨u',a,b⟩:=q7 z u e (by rw [cD,if_neg (Ne.symm q)];exact g)
   exact ⟨u',a,b.keep X2.tup⟩
theorem bF.mark{fr:List Env}{hd:Option Nat}{d:Nat}{A:Around}{own:ak}{H:MH}{h:Heap}(I:bF prog w YC T fr hd d A own H h){a:Nat}(hx:c7 H a):bF prog w YC T fr (some a) d (A.mark (some (.ref a))) own H h:=
 ⟨⟨I.ao.frames,rfl,I.ao.depth,I.ao.units⟩,I.ff,fun e q=>by obtain rfl:=Option.some.inj q;exact hx,I.ok⟩
theorem Fo{A:Around}{env:Env}{own:ak}{H:MH}{s:Shared}{what:String}(O:Ok prog w T YC own H s.heap){e:Nat}(he:c7 H e)(tb:iW own s.heap e){Q:PySem.Flow→Shared→Prop}{E':Value→Shared→Prop}
  (hQ:∀h',Ok prog w T YC own H h'→aH aV own H s.heap own H h'→E' (.ref e) (aF s h' s.toks)):wpAny (model prog w) A (PySem.passOn what (.ref e) env:Sem PySem.Flow) Q E' s:=by
 unfold PySem.passOn
 obtain ⟨ob,vs,t,ot,ts,x,z1,z2,z3,z4,z5,z6⟩:=id tb
 refine wpAny_bind (wpAny_field x.obj x.data z1 ?_)
 rw [if_neg (by simp)]
 exact wpAny_bind (lE O he _ fun h3 O3 X3 zz=>wpAny_throw (hQ h3 O3 X3))
theorem Rv(G:Gd prog w YC K T){sc:SC}{body h:List Stmt}{x:String}{xp hp p:Pos}{cls:Nat}{name:Option String}{xb xh:List St}(hb:gQ prog w YC T sc body xb)(hh:gQ prog w YC T sc h xh)(hne:h≠ [])
  (hg:SE prog w YC T sc (.Name (nm x) xp) (.k (.con (.ref cls)))) (hname:∀n,name=some n→sc.lookup (nm n)=some .local∧n≠".0"):
  SS prog w YC T sc (.Try body [.ExceptHandler (some (.Name (nm x) xp)) (name.map nm) h hp] [] [] p) (.tryExc xb cls name xh):=by
 intro env C d N hd fr loc H Q E he hc ht hw A own s Q' E' I F ks kx
 refine wpAny_Try_except (hb env C d N hd fr loc H _ _ he hc ht hw A own s _ _ I F (fun fl loc1 H1 YF h1 tk1 flow hw1 O1 X1 F1 r1=> ?_) (fun a loc1 H1 YF h1 tk1 hw1 isx O1 X1 F1=> ?_))
 ·cases r1 with
  | next=>exact wpAny_execs_nil (ks _ _ _ _ _ tk1 _ hw1 O1 X1 F1 .next)
  | cont=>exact ks _ _ _ _ _ tk1 _ hw1 O1 X1 F1 .cont
  | ret r=>exact ks _ _ _ _ _ tk1 _ hw1 O1 X1 F1 (.ret r)
 ·have I1:=I.stepF O1 X1 F F1
  obtain ⟨outer,rfl⟩:=ht
  obtain ⟨_,L,m,hf,_⟩:=I.ff env List.mem_cons_self
  refine oO (s:=(aF s h1 tk1)) (outer:=outer) I1.ao.frames I1.ff hf O1 isx fun own2 h2 O2 X2 tb2=> ?_
  refine lE (s:=(aF s h2 tk1)) O2 isx none fun h3 O3 X3 tb3=> ?_
  have X13:aH aV YF H1 h1 own2 H1 h3:=X2.trans X3
  have I3:=I1.step O3 X13
  have F3:=F1.keep X13
  have X03:=X1.trans X13.any
  refine aa.el hw1 ?_;clear hw1;intro c hxc hw1
  obtain ⟨fs,hH⟩:=wZ hxc
  obtain ⟨hce,hw1⟩:=hw1
  subst hce
  have Im:=I3.mark isx
  have kxm:∀{E2:ES} {E2':Value→Shared→Prop} {tk:Nat},KX prog w YC T env own2 H1 (aF s h3 tk) E2 E2'→
    KX prog w YC T env own2 H1 (aF s h3 tk) E2 (notedBy (model prog w) (A.mark (some (.ref a))) env (cameBackBy (model prog w) A env E2')):=fun {E2 E2' tk} k=>
   qF (s:=(aF s h3 tk)) Im ⟨outer,rfl⟩ rfl F3 k
  refine wpAny_handleBy_cons ?_ (by intro q;cases q)
  refine codeAny_handlers_test ?_
  refine hg env C d (some a) _ loc1 H1 (fun v H'=>v= .con (.ref c)∧H'=H1) (fun zz zz=>False) he hc (And.intro rfl rfl) (A.mark (some (.ref a))) own2 (aF s h3 tk1) _ _ Im F3 (fun v H4 own4 h4 tk4 val hq O4 X4 r4=> ?_) fun zz zz zz zz zz z=>z.elim
  obtain ⟨rfl,rfl⟩:=hq
  cases r4
  have F4:=F3.keep X4
  have X04:=X03.trans X4.any
  obtain ⟨dct,vs,sl,nm',q,N',bs,hdct,sn,sub,ab,col,dd,k0,k1,k2,k3,k5,eA,eC⟩:=Fi G O4 hH
  have eA':h4.get? a=some ⟨.ref c,dct, .fields vs,sl⟩:=eA
  refine wpAny_excMatches_sub_self (h:=h4) (g:=s.gens) (d:=s.drawn) (t:=tk4) (os:=s.os) eC eA' rfl (by decide) ?_
  have Im4:=Im.step O4 X4
  induction h using List.casesOn with
  | nil=>exact absurd rfl hne
  | cons b₀ bs'=>
   induction name using Option.casesOn with
   | none=>
    refine codeAny_handlers_suite ?_
    refine lE (s:=⟨h4,s.gens,s.drawn,tk4,s.os⟩) O4 isx none fun h5 O5 X5 zz=> ?_
    have X05:aH (bQ env) own H s.heap own4 H4 h5:=X04.trans X5.any
    have F5:=F4.keep X5
    have Im5:=Im4.step O5 X5
    refine hh env C d N (some a) _ loc1 H4 Q E he hc ⟨outer,rfl⟩ hw1 (A.mark (some (.ref a))) own4 ⟨h5,s.gens,s.drawn,tk4,s.os⟩ _ _ Im5 F5 (ks.step X05) ?_
    exact qF (s:=⟨h5,s.gens,s.drawn,tk4,s.os⟩) Im5 ⟨outer,rfl⟩ rfl F5 (kx.step X05)
   | some n=>
    obtain ⟨hn,hn0⟩:=hname n rfl
    refine codeAny_handlers_suite_as ?_
    refine lE (s:=⟨h4,s.gens,s.drawn,tk4,s.os⟩) O4 isx none fun h5 O5 X5 zz=> ?_
    have X05:aH (bQ env) own H s.heap own4 H4 h5:=X04.trans X5.any
    have F5:=F4.keep X5
    refine oK (s:=⟨h5,s.gens,s.drawn,tk4,s.os⟩) he (.inl hn) O5 F5 (.ref a) fun h6 tk6 O6 X6 F6=> ?_
    have X06:=X05.trans X6
    have Im6:=(Im4.step O5 X5).stepF O6 X6 F5 F6
    refine hh env C d N (some a) _ (put loc1 n (.ref a)) H4 _ _ he hc ⟨outer,rfl⟩ hw1 (A.mark (some (.ref a))) own4 ⟨h6,s.gens,s.drawn,tk6,s.os⟩ _ _ Im6 F6 (fun fl loc7 H7 own7 h7 tk7 flow hw7 O7 X7 F7 r7=> ?_) (fun b loc7 H7 own7 h7 tk7 hw7 isb O7 X7 F7=> ?_)
    ·refine Fj (s:=⟨h7,s.gens,s.drawn,tk7,s.os⟩) he hn hn0 O7 F7 fun h8 tk8 O8 X8 F8 sb8=> ?_
     refine ks _ _ _ _ _ tk8 _ hw7 O8 ((X06.trans X7).trans X8) F8 ?_
     cases r7 with
     | next=>exact .next
     | cont=>exact .cont
     | ret r=>exact .ret (r.keep X8.tup)
    ·have Im7:=Im6.stepF O7 X7 F6 F7
     refine oO (s:=⟨h7,s.gens,s.drawn,tk7,s.os⟩) (outer:=outer) (A:=A.mark (some (.ref a))) Im7.ao.frames Im7.ff hf O7 isb fun own8 h8 O8 X8 tb8=> ?_
     have F8:=F7.keep X8
     refine Fj (s:=⟨h8,s.gens,s.drawn,tk7,s.os⟩) he hn hn0 O8 F8 fun h9 tk9 O9 X9 F9 sb9=> ?_
     refine Fo (s:=⟨h9,s.gens,s.drawn,tk9,s.os⟩) O9 isb (tb8.sameBut sb9 F8.ownL) fun h10 O10 X10=> ?_
     have X010:aH (bQ env) own H s.heap own8 H7 h10:=(((X06.trans X7).trans X8.any).trans X9).trans X10.any
     have F10:=F9.keep X10
     have Im10:=((Im7.step O8 X8).stepF O9 X9 F8 F9).step O10 X10
     have kk:=qF (A1:=A.mark (some (.ref a))) (A2:=A) (s:=⟨h10,s.gens,s.drawn,tk9,s.os⟩) Im10 ⟨outer,rfl⟩ rfl F10 (kx.step X010)
     exact kk b (del loc7 n) H7 own8 h10 tk9 hw7 isb O10 .refl F10
end
section
variable{prog:Program}{w:World}{YC:Heap}{K:Frag}{T:Tab}
theorem iW.tb{own:ak}{h:Heap}{e:Addr}(x:iW own h e):Tb h e:=by
 obtain ⟨o,vs,t,ot,ts,x,z1,_⟩:=x
 exact ⟨o,vs,t,x.obj,x.data,z1⟩
theorem Ok.hasTb{own:ak}{H:MH}{h:Heap}(O:Ok prog w T YC own H h){e:Nat}(he:c7 H e)(x:Tb h e):iW own h e:=by
 obtain ⟨o,vs,y⟩:=O.excAt he
 obtain ⟨o',vs',t,z1,z2,z3⟩:=x
 rw [y.obj] at z1;obtain rfl:=Option.some.inj z1
 rw [y.data] at z2;injection z2 with z2;subst z2
 rcases y.tb with q | ⟨t',ot,ts,q1,q2,q3,q4,q5,q6⟩
 ·rw [z3] at q;cases q
 ·exact ⟨o,vs,t',ot,ts,y,q1,q2,q3,q4,q5,q6⟩
theorem Rw{sc:SC}{body fin:List Stmt}{p:Pos}{xb xf:List St}(hb:gQ prog w YC T sc body xb)(hf:gQ prog w YC T sc fin xf)(hne:fin≠ []):SS prog w YC T sc (.Try body [] [] fin p) (.tryFin xb xf):=by
 intro env C d N hd fr loc H Q E he hc ht hw A own s Q' E' I F ks kx
 induction fin using List.casesOn with
 | nil=>exact absurd rfl hne
 | cons f₀ fs=>
 have plain:∀(fl:Mine.Flow) (flow:PySem.Flow) loc1 H1 YF h1 tk1,b8 T C N hd xf loc1 H1 (sO (Q fl)) E→Ok prog w T YC YF H1 h1→aH (bQ env) own H s.heap YF H1 h1→FO YC env YF h1 loc1→qz YF h1 fl flow→
   wpAny (model prog w) A (execs (f₀::fs) env) (fun g s'=>match g with | .next=>Q' flow s' | g=>Q' g s') (notedBy (model prog w) A env (cameBackBy (model prog w) A env E')) (aF s h1 tk1):=by
  intro fl flow loc1 H1 YF h1 tk1 hw1 O1 X1 F1 r1
  have I1:=I.stepF O1 X1 F F1
  refine hf env C d N hd fr loc1 H1 _ _ he hc ht hw1 A YF (aF s h1 tk1) _ _ I1 F1 (fun fl2 loc2 H2 own2 h2 tk2 flow2 hw2 O2 X2 F2 r2=> ?_) (qF (s:=(aF s h1 tk1)) I1 ht rfl F1 (kx.step X1))
  cases r2 with
  | next=>
   refine ks _ _ _ _ _ tk2 _ hw2 O2 (X1.trans X2) F2 ?_
   cases r1 with
   | next=>exact .next
   | cont=>exact .cont
   | ret r=>exact .ret (r.keep X2.tup)
  | cont=>exact hw2.elim
  | ret _=>exact hw2.elim
 refine wpAny_Try_finally (hb env C d N hd fr loc H _ _ he hc ht hw A own s _ _ I F (fun fl loc1 H1 YF h1 tk1 flow hw1 O1 X1 F1 r1=> ?_) (fun a loc1 H1 YF h1 tk1 hw1 isx O1 X1 F1=> ?_))
 ·cases r1 with
  | next=>exact wpAny_execs_nil (plain _ _ _ _ _ _ tk1 hw1 O1 X1 F1 .next)
  | cont=>exact plain _ _ _ _ _ _ tk1 hw1 O1 X1 F1 .cont
  | ret r=>exact plain _ _ _ _ _ _ tk1 hw1 O1 X1 F1 (.ret r)
 ·obtain ⟨outer,rfl⟩:=ht
  obtain ⟨_,L,m,hfr,_⟩:=I.ff env List.mem_cons_self
  have I1:=I.stepF O1 X1 F F1
  refine oO (s:=(aF s h1 tk1)) (outer:=outer) I1.ao.frames I1.ff hfr O1 isx fun own2 h2 O2 X2 tb2=> ?_
  have I2:=I1.step O2 X2
  refine ⟨(by intro q;cases q), ?_⟩
  refine oO (s:=(aF s h2 tk1)) (outer:=outer) I2.ao.frames I2.ff hfr O2 isx fun own3 h3 O3 X3 tb3=> ?_
  have I3:=I2.step O3 X3
  refine lE (s:=(aF s h3 tk1)) O3 isx none fun h4 O4 X4 tb4=> ?_
  have I4:=I3.step O4 X4
  have Im:=I4.mark isx
  have X24:=(X2.trans X3).trans X4
  have F4:=F1.keep X24
  have X04:=X1.trans X24.any
  refine hf env C d N (some a) _ loc1 H1 _ jP he hc ⟨outer,rfl⟩ hw1 (A.mark (some (.ref a))) own3 (aF s h4 tk1) _ _ Im F4 (fun fl2 loc2 H2 own5 h5 tk5 flow2 hw2 O5 X5 F5 r2=> ?_) fun zz zz zz zz zz zz z=>z.elim
  cases r2 with
  | next=>
   have isx5:=X5.exc a isx
   have tb5:=O5.hasTb isx5 (X5.tb a isx (tb4 tb3).tb)
   refine Fo (s:=(aF s h5 tk5)) O5 isx5 tb5 fun h6 O6 X6=> ?_
   exact kx a loc2 H2 own5 h6 tk5 hw2 isx5 O6 ((X04.trans X5).trans X6.any) (F5.keep X6)
  | cont=>exact hw2.elim
  | ret _=>exact hw2.elim
end
theorem Fp{α:Type}{y:Str}:∀{l r:List (Str×α)},(l++r).lookup y=(l.lookup y).or (r.lookup y)
 | [],_=>rfl
 | (k,v)::l,r=>by
  rw [List.cons_append,List.lookup_cons,List.lookup_cons]
  induction y==k using Bool.casesOn with
  | true=>rfl
  | false=>exact Fp
noncomputable def mU:List (Str×Value)→List (Str×Value)→List (Str×Value)
 | slots,[]=>slots
 | slots,(n,d)::r=>mU (if (slots.lookup n).isNone then slots++ [(n,d)] else slots) r
theorem Rx(f:Str×Value→List (Str×Value)→Sem (ForInStep (List (Str×Value))))
  (hf:∀n d sl,f (n,d) sl=if (sl.lookup n).isNone=true then pure (.yield (sl++ [(n,d)])) else pure (.yield sl)):
  ∀(l:List (Str×Value)) (sl:List (Str×Value)),(forIn l sl f:Sem _)=pure (mU sl l):=by
 intro l
 induction l with
 | nil=>exact fun sl=>List.forIn_nil
 | cons e r ih=>
  intro sl
  obtain ⟨n,d⟩:=e
  rw [List.forIn_cons,hf,show mU sl ((n,d)::r)=mU (if (sl.lookup n).isNone then sl++ [(n,d)] else sl) r from rfl]
  by_cases q:(sl.lookup n).isNone=true
  ·rw [if_pos q,if_pos q];exact ih _
  ·rw [if_neg q,if_neg q];exact ih _
theorem Fq{y:Str}:∀{l sl:List (Str×Value)},(mU sl l).lookup y=(sl.lookup y).or (l.lookup y)
 | [],sl=>Option.or_none.symm
 | (n,d)::r,sl=>by
  show (mU (if (sl.lookup n).isNone then sl++ [(n,d)] else sl) r).lookup y=_
  rw [Fq,List.lookup_cons]
  by_cases q:(sl.lookup n).isNone=true
  ·rw [if_pos q,Fp,List.lookup_cons]
   induction hb:y==n using Bool.casesOn with
   | true=>
    rw [beq_iff_eq.mp hb,Option.isNone_iff_eq_none.1 q];rfl
   | false=>rw [List.lookup_nil,Option.or_none]
  ·rw [if_neg q]
   induction hb:y==n using Bool.casesOn with
   | true=>
    rw [beq_iff_eq.mp hb]
    induction e:List.lookup n sl using Option.casesOn with
    | none=>rw [e] at q;exact absurd rfl q
    | some v=>rfl
   | false=>rfl
theorem xE{y:Str}{ps:List Str}:∀{vs:List Value} {i:Nat},ps.Nodup→ps[i]? =some y→(ps.zip vs).lookup y=vs[i]? :=by
 induction ps with
 | nil=>exact fun zz h=>nomatch h
 | cons p ps ih=>
  intro vs i hn h
  induction vs using List.casesOn with
  | nil=>exact List.getElem?_nil.symm
  | cons v vs=>
   rw [List.zip_cons_cons,List.lookup_cons]
   induction i using Nat.casesOn with
   | zero=>cases h;rw [beq_self_eq_true];rfl
   | succ i=>
    have hn:=List.nodup_cons.1 hn
    rw [beq_eq_false_iff_ne.mpr fun z=>hn.1 (by rw [←z];exact List.mem_of_getElem? h)]
    exact ih hn.2 h
theorem Ft{f:Str→Option Value}:∀{ps:List Str} {vs:List Value},ps.length=vs.length→(∀i (h:i<ps.length),f ps[i]=vs[i]?)→(ps.filterMap fun n=>(f n).map (n, ·))=ps.zip vs
 | [],[],_,_=>rfl
 | [],_::_,h,_=>nomatch h
 | _::_,[],h,_=>nomatch h
 | p::ps,v::vs,hl,h=>by
  have h0:f p=some v:=h 0 (Nat.zero_lt_succ _)
  rw [List.filterMap_cons,h0,List.zip_cons_cons,←Ft (f:=f) (Nat.succ.inj hl) fun i hi=>h (i+1) (Nat.succ_lt_succ hi)]
  rfl
theorem xF{M:Model}{A:Around}{α:Type}{b:Bool}{X Y:Sem α}{Q:α→Shared→Prop}{E:Value→Shared→Prop}{s:Shared}(e:b=false)(h:wpAny M A Y Q E s):wpAny M A (if b=true then X else Y) Q E s:=by
 subst e;exact h
theorem wpAny_of_eq{M:Model}{A:Around}{α:Type}{X Y:Sem α}{Q:α→Shared→Prop}{E:Value→Shared→Prop}{s:Shared}(e:X=Y)(h:wpAny M A Y Q E s):wpAny M A X Q E s:=e▸h
theorem Ry{v p d i:Nat}(h1:v≤p)(h2:p≤v+d)(h3:d≤p)(h4:v≤i):d+v - p+(i - v)=i - (p - d):=by
 have ⟨j,e4⟩:=Nat.exists_eq_add_of_le h4
 have ⟨q,e1⟩:=Nat.exists_eq_add_of_le h1
 subst e4 e1
 have ⟨r,e2⟩:=Nat.exists_eq_add_of_le (Nat.le_of_add_le_add_left h2)
 subst e2
 have ⟨u,e3⟩:=Nat.exists_eq_add_of_le (Nat.le_of_add_le_add_right (Nat.add_comm q r▸h3))
 subst e3
 rw [Nat.add_sub_cancel_left,Nat.add_comm (r+u) q,Nat.add_sub_add_right,Nat.add_sub_cancel_left,←Nat.add_assoc,Nat.add_sub_cancel_left,Nat.add_right_comm,Nat.add_sub_cancel]
theorem Fv{v p d:Nat}(h1:v≤p)(h2:p≤v+d):p=v+(d - (d+v - p)):=by
 have ⟨q,e⟩:=Nat.exists_eq_add_of_le h1
 subst e
 rw [Nat.add_comm d v,Nat.add_sub_add_left,Nat.sub_sub_self (Nat.le_of_add_le_add_left h2)]
theorem Rz{YG dv:List Value}{ps:List Str}(hnd:ps.Nodup)(hl1:YG.length≤ps.length)(hl2:ps.length≤YG.length+dv.length)(hl3:dv.length≤ps.length):
  (ps.filterMap fun n=>((mU (ps.zip YG) ((ps.drop (ps.length - dv.length)).zip dv)).lookup n).map (n, ·))=ps.zip (YG++dv.drop (dv.length+YG.length - ps.length)):=by
 refine Ft (by rw [List.length_append,List.length_drop];exact Fv hl1 hl2) fun i hi=> ?_
 rw [Fq,xE hnd (i:=i) (List.getElem?_eq_getElem hi)]
 by_cases hv:i<YG.length
 ·rw [List.getElem?_append_left hv,List.getElem?_eq_getElem hv];rfl
 ·have hv:=Nat.le_of_not_lt hv
  have e1:(ps.drop (ps.length - dv.length))[i - (ps.length - dv.length)]? =some ps[i]:=by
   rw [List.getElem?_drop,Nat.add_sub_of_le (Nat.le_trans (Nat.sub_le_iff_le_add.2 hl2) hv),List.getElem?_eq_getElem hi]
  rw [List.getElem?_append_right hv,List.getElem?_eq_none hv,xE (hnd.sublist (List.drop_sublist _ _)) e1,List.getElem?_drop,Ry hl1 hl2 hl3 hv]
  rfl
theorem Fw{a b:Nat}(h:a≤b):a - b=0:=Nat.sub_eq_zero_of_le h
theorem RB{v p d i:Nat}(h:p≤v+d)(h2:i<min (p - d) p):i<v:=Nat.lt_of_lt_of_le h2 (Nat.le_trans (Nat.min_le_left _ _) (Nat.sub_le_iff_le_add.2 h))
theorem RC{YG:List Value}{ps:List Str}{d:Nat}(hnd:ps.Nodup)(hl2:ps.length≤YG.length+d):((ps.take (ps.length - d)).filter fun n=>((ps.zip YG).lookup n).isNone)= []:=by
 refine List.filter_eq_nil_iff.2 fun n hn=> ?_
 have ⟨i,hi,e⟩:=List.getElem_of_mem hn
 rw [List.length_take] at hi
 have hi2:=RB hl2 hi
 rw [←e,List.getElem_take,xE hnd (i:=i) (List.getElem?_eq_getElem _),List.getElem?_eq_getElem hi2]
 exact Bool.false_ne_true
theorem RD{fd:FuncData}{YG dv:List Value}{ps:List Str}(h1:fd.params.posonlyargs= [])(h2:fd.params.kwonlyargs= [])(h3:fd.params.vararg=none)(h4:fd.params.kwarg=none)(h5:fd.params.args.map (·.arg)=ps)(hnd:ps.Nodup)
  (hl1:YG.length≤ps.length) (hl2:ps.length≤YG.length+dv.length) (hl3:dv.length≤ps.length) {M:Model} {A:Around} {E:Value→Shared→Prop} {s:Shared}
  (hdv:∀(Q:Option (Array Value)→Shared→Prop),(∀r,r.getD #[]=dv.toArray→Q r s)→wpAny M A (seqItems? fd.defaults) Q E s) {Q:List (Str×Value)→Shared→Prop} (hQ:Q (ps.zip (YG++dv.drop (dv.length+YG.length - ps.length))) s):
  wpAny M A (bindArgs fd ⟨YG,[]⟩) Q E s:=by
 have h6:fd.params.posonlyargs.map (·.arg)++fd.params.args.map (·.arg)=ps:=(congrArg (fun l:List Arg=>l.map (·.arg)++fd.params.args.map (·.arg)) h1).trans h5
 have h7:fd.params.kwonlyargs.map (·.arg)= []:=congrArg (List.map (·.arg)) h2
 clear h1 h2 h5
 unfold bindArgs
 dsimp only
 generalize fd.params.posonlyargs.map (·.arg)++fd.params.args.map (·.arg)=ps' at h6
 generalize fd.params.kwonlyargs.map (·.arg)=kw' at h7
 subst h6 h7
 refine wpAny_bind (wpAny_of_eq List.forIn_nil (wpAny_pure (wpAny_bind (hdv _ fun r hr=> ?_))))
 obtain rfl:(r.getD #[]).toList=dv:=congrArg Array.toList hr
 clear hr hdv
 refine xF (by rw [decide_eq_false (Nat.not_lt.2 hl1)];rfl) (xF ?_ (wpAny_bind (wpAny_of_eq (Rx _ (fun zz zz zz=>rfl) _ _) (wpAny_pure (wpAny_bind (wpAny_of_eq List.forIn_nil (wpAny_pure (xF rfl ?_))))))))
 ·rw [Fw hl3,List.drop_zero,RC hnd hl2];rfl
 ·rw [h3,h4,Fw hl3,List.drop_zero,List.append_nil,Rz hnd hl1 hl2 hl3]
  exact wpAny_pure hQ
section
variable{prog:Program}{w:World}{YC:Heap}{K:Frag}{T:Tab}
theorem Fx{M:Model}{A:Around}{E':Value→Shared→Prop}{env:Env}{sc:SC}(he:cj env sc){H:MH}{own:ak}(f:Str×Value→PUnit→Sem (ForInStep PUnit))(hf:∀n v u,f (n,v) u=(do storeName env n v;pure (.yield ⟨⟩))):
  ∀{ps:List String} {vs:List V} {YG:List Value} {s:Shared} {loc:Loc} {Q':PUnit→Shared→Prop},(∀x∈ps,lC sc x)→vs.length=ps.length→Ok prog w T YC own H s.heap→FO YC env own s.heap loc→aB own s.heap vs YG→
  (∀h' tk,Ok prog w T YC own H h'→aH (bQ env) own H s.heap own H h'→FO YC env own h' ((ps.zip vs).foldl (fun l p=>put l p.1 p.2) loc)→Q' ⟨⟩ (aF s h' tk))→
  wpAny M A (forIn ((ps.map nm).zip YG) ⟨⟩ f) Q' E' s
 | [],vs,YG,s,loc,Q',_,hl,O,F,r,hQ=>by
  induction vs using List.casesOn with
  | cons=>cases hl
  | nil=>
   rw [List.map_nil,List.zip_nil_left,List.forIn_nil]
   exact wpAny_pure (hQ _ s.toks O .refl F)
 | p::ps,[],YG,s,loc,Q',_,hl,O,F,r,hQ=>by cases hl
 | p::ps,v::vs,YG,s,loc,Q',hx,hl,O,F,r,hQ=>by
  refine aB.k_cons r fun zz zz a r=> ?_
  rw [List.map_cons,List.zip_cons_cons,List.forIn_cons,hf]
  refine wpAny_bind (wpAny_bind (oK he (hx p List.mem_cons_self) O F a fun h1 tk1 O1 X1 F1=>wpAny_pure ?_))
  exact Fx he f hf (fun x h=>hx x (List.mem_cons_of_mem _ h)) (by simpa using hl) O1 F1 (r.keep X1.tup) fun h2 tk2 O2 X2 F2=>hQ h2 tk2 O2 (X1.trans X2) F2
theorem RG{M:Model}{A:Around}{E':Value→Shared→Prop}{own:ak}{H:MH}{s:Shared}{scope:Scope}{sc:SC}(hsc:scope.names=sc)(hk:scope.kind= .function)(O:Ok prog w T YC own H s.heap){ps:List String}{vs:List V}{YG:List Value}(hv:aB own s.heap vs YG)
  (hps:∀x∈ps,lC sc x) (hnd:ps.Nodup) (hlen:vs.length=ps.length) {qual:Str} {func:Option Addr} {code:Value} {Q:Env→Shared→Prop}
  (hQ:∀env YD h' tk,env.frame=some env.locals→cj env sc→Ok prog w T YC YD H h'→aH aV own H s.heap YD H h'→FO YC env YD h' (ps.zip vs)→(∀a,bQ env a→s.heap.get? a=none)→Q env (aF s h' tk)):
  wpAny M A (newFunctionEnv scope mainGlobals [] ((ps.map nm).zip YG) qual func code none builtinsNs) Q E' s:=by
 simp only [newFunctionEnv,Option.isSome_none,Bool.false_eq_true,if_false]
 refine wpAny_bind (wpAny_alloc ?_)
 refine wpAny_bind (wpAny_layCells _ (fun name kind cells=>by induction hkc:kind==NameKind.cell using Bool.casesOn<;>simp [hkc]) _ _ _ _ ?_)
 have ok:=cellsFrom_ok scope.names (s.heap.push {cls:= .type "frame",data:= .dict #[]}) (s.heap.objs.size+1) [] ⟨fun zz zz hm=>(nomatch hm),List.Pairwise.nil⟩ (by rw [Heap.size_push];exact Nat.le_refl _)
 rw [Heap.size_push] at ok
 rw [show ({s with heap:=s.heap.push {cls:= .type "frame",data:= .dict #[]}}:Shared).heap.objs.size=s.heap.objs.size+1 from Heap.size_push ..]
 generalize hcs:cellsFrom (s.heap.objs.size+1) scope.names []=cs at*
 generalize hh1:pushCells (s.heap.push {cls:= .type "frame",data:= .dict #[]}) scope.names=h1 at*
 have keep1:∀a o,s.heap.get? a=some o→h1.get? a=some o:=fun a o e=>by rw [←hh1];exact pushCells_keeps _ _ a o (Heap.get?_push_of_some _ e)
 have hdef:∃YD:ak,∀a,YD a=if a<s.heap.objs.size then own a else none:=⟨fun a=>if a<s.heap.objs.size then own a else none,fun zz=>rfl⟩
 obtain ⟨YD,ho'⟩:=hdef
 have ownk:∀a o,s.heap.get? a=some o→YD a=own a:=fun a o e=>by rw [ho',if_pos (Heap.lt_size e)]
 have ownn:∀a,s.heap.objs.size≤a→YD a=none:=fun a e=>by rw [ho',if_neg (Nat.not_lt.mpr e)]
 have O1:Ok prog w T YC YD H h1:=O.grow keep1 ownk
 have X1:aH aV own H s.heap YD H h1:= .of_keeps keep1 ownk
 have fresh:∀a,s.heap.objs.size≤a→s.heap.get? a=none:=fun a ha=>by
  induction e:s.heap.get? a using Option.casesOn with
  | none=>rfl
  | some o'=>exact absurd (Heap.lt_size e) (Nat.not_lt.mpr ha)
 refine wpAny_bind ?_
 generalize hen:({scope,locals:=s.heap.objs.size,globals:=mainGlobals,cells:=cs,qual,func,code,frame:=some s.heap.objs.size,builtins:=builtinsNs}:Env)=env
 have hloc:env.locals=s.heap.objs.size:=by rw [←hen]
 have hcells:env.cells=cs:=by rw [←hen]
 have he:cj env sc:=⟨by rw [←hen];exact hsc,by rw [←hen];exact hk,by rw [←hen],by rw [←hen]⟩
 have hL:h1.Ns1 env.locals fun zz=>none:=by
  rw [hloc,←hh1]
  exact Heap.Ns1.of_empty ((Heap.Ns.new s.heap (.type "frame")).keeps (pushCells_keeps _ _))
 have inF:∀a,bQ env a→s.heap.get? a=none:=by
  rintro a (rfl | ⟨x,hx,hc⟩)
  ·rw [hloc];exact mQ
  ·rw [hcells] at hc
   exact fresh a (Nat.le_of_succ_le (ok.empty x a (mem_of_lookup hc)).2)
 have F1:FO YC env YD h1 []:=by
  refine ⟨by rw [hloc];exact ownn _ (Nat.le_refl _),by rw [hloc];exact O.none_of (Nat.le_refl _),⟨_,hL,fun zz zz e=>nomatch e⟩,fun x hx=> ?_,fun x y c e1 e2=> ?_⟩
  ·have hx':scope.names.lookup x=some .cell:=by rw [hsc,←he.names];exact hx
   obtain ⟨c,hc⟩:=Option.isSome_iff_exists.mp (cellsFrom_some scope.names (s.heap.objs.size+1) [] (.inl hx'))
   rw [hcs] at hc
   obtain ⟨⟨o,e,d⟩,lo⟩:=ok.empty x c (mem_of_lookup hc)
   exact ⟨c,o,none,by rw [hcells];exact hc,ownn c (Nat.le_of_succ_le lo),O.none_of (Nat.le_of_succ_le lo),e,d,fun zz zz zz e=>nomatch e⟩
  ·rw [hcells] at e1 e2
   exact name_of_addr ok.apart (mem_of_lookup e1) (mem_of_lookup e2)
 refine Fx (s:=(aF s h1 s.toks)) he _ (fun zz zz zz=>rfl) hps hlen O1 F1 (hv.keep X1.tup) fun h2 tk2 O2 X2 F2=>wpAny_pure ?_
 obtain ⟨z1,z2⟩:=xD hlen
 have F2':FO YC env YD h2 (ps.zip vs):=F2.congr fun y=>by
  rw [t8 (by rw [z1];exact hnd)]
  have:∀l:List (String×V),Mine.get l y=(l.find? fun p=>p.1==y).map (·.2):=fun l=>by
   induction l with
   | nil=>rfl
   | cons p r ih=>
    obtain ⟨k,v⟩:=p
    rw [jW,List.find?_cons]
    by_cases q:k=y
    ·subst q;simp
    ·have:((k,v).1==y)=false:=by simpa using q
     rw [if_neg q,this,ih]
  rw [this]
  simp [Mine.get]
 exact hQ env YD h2 tk2 (by rw [←hen]) he O2 (X1.trans_new X2 inF) F2' inF
end
theorem RJ{prog:Program}{w:World}{A:Around}{E:Value→Shared→Prop}{s:Shared}{it d:Addr}{i ep:Nat}{kvs:List (Str×Value)}{Q:Option Value→Shared→Prop}(hh:HG A.handled s.heap)(hit:s.heap.IsKeyIter it d i kvs.length ep)
  (hm:s.heap.DictAt (strKind prog w) d kvs ep) (hx:kvs[i]? =none)
  (hQ:∀h',Heap.ExtBut it s.heap h'→(∃o,h'.get? it=some o)→Q none (aF s h' s.toks)):wpAny (model prog w) A (pyNext (.ref it)) Q E s:=by
 obtain ⟨o,ho,hc,hd⟩:=id hit
 obtain ⟨od,es,hod,hcd,hdd,hk,hp,hn⟩:=id hm
 unfold pyNext
 refine wpAny_bind (wpAny_attempt (wpAny_callSpecial?_slot (name:=Str.ofString "__next__") hit.typeIs F.slot_dict_keyiterator_next
  (wpAny_call_entry F.slot_dict_keyiterator_next hit.typeIs F.entry_dict_keyiterator_next ?_ (F.args_dict_keyiterator_next_1 _))))
 refine wpAny_bind (wpAny_pure ?_)
 refine wpAny_bind ?_
 refine wpAny_bind ?_
 first | refine wpAny_bind (wpAny_typeNameOfWhole_keyiter hit.typeIs (wpAny_pure ?_)) | refine wpAny_bind (wpAny_typeNameOf_keyiter hit.typeIs (wpAny_pure ?_))
 refine wpAny_bind (wpAny_fieldsOf ho hd ?_)
 show wpAny _ _ (if (Value.ref d==Value.none)=true then _ else _) _ _ s
 rw [if_neg (show¬((Value.ref d==Value.none)=true) from Bool.false_ne_true)]
 refine wpAny_bind (wpAny_pure ?_)
 refine wpAny_bind (wpAny_dictEntries hod hdd ?_)
 have hsz:es.size=kvs.length:=by rw [←hp.length];simp
 rw [if_neg (by rw [hsz];simp)]
 refine wpAny_bind (wpAny_pure ?_)
 refine wpAny_bind (wpAny_dictEpoch hod hdd ?_)
 rw [if_neg (by simp)]
 refine wpAny_pure ?_
 have hge:es.size≤i:=by rw [hsz];simpa using hx
 dsimp only
 rw [show (if (i:Int)<0 then (none:Option DictEntry) else es[(i:Int).toNat]?)=none from (if_neg (Int.not_lt.mpr (Int.natCast_nonneg i))).trans (Array.getElem?_eq_none hge)]
 refine wpAny_bind ?_
 first | refine wpAny_bind (wpAny_typeNameOfWhole_keyiter hit.typeIs (wpAny_pure ?_)) | refine wpAny_bind (wpAny_typeNameOf_keyiter hit.typeIs (wpAny_pure ?_))
 show wpAny _ _ (PySem.setField (.ref it) 0 .none>>=_) _ _ s
 refine wpAny_bind (wpAny_setField ho hd (by simp) ?_)
 show wpAny _ _ (newExc (.type "StopIteration") []>>=_) _ _ _
 refine tZ (HG.of_it hh ho hd (by simp [rawInt]) (Heap.SameBut.update ..).extBut) fun h' hk' e hT=> ?_
 refine wpAny_bind (wpAny_isInstance (T:="StopIteration") (b:=true) hT isSubtype_stop ?_)
 exact wpAny_pure (hQ _ (fun b o hb eb=>hk' b o ((Heap.SameBut.update ..).extBut b o hb eb)) ⟨_,hk' it _ (Heap.get?_update_self _ ho (Obj.isFreed_of_fields (Obj.data_mapFields hd _)))⟩)
theorem uc{t:Txt}{l:List V}:(bU (.str t::l)).isSome=(bU l).isSome:=Option.isSome_map (x:=bU l)
theorem xG{es:List (V×V)}{k:Txt}(h:(bU (es.map (·.1))).isSome=true):bB es (.str k)=true:=by
 induction es with
 | nil=>rfl
 | cons e r ih=>
  obtain ⟨a,y⟩:=e
  induction a using V.casesOn with
  | str t=>exact ih (uc.symm.trans h)
  | _=>exact bz h
theorem RK{k:Txt}{v:V}{es:List (V×V)}(h:(bU (es.map (·.1))).isSome=true):(bU ((bC es (.str k) v).map (·.1))).isSome=true:=by
 induction es with
 | nil=>rfl
 | cons e r ih=>
  obtain ⟨a,y⟩:=e
  induction a using V.casesOn with
  | str t=>
   have h':(bU (r.map (·.1))).isSome=true:=uc.symm.trans h
   rw [nH]
   by_cases q:V.same (.str t) (.str k)=true
   ·rw [if_pos q];exact uc.trans h'
   ·rw [if_neg q];exact uc.trans (ih h')
  | _=>exact bz h
theorem RL{es:List (V×V)}{k v:V}:(bC es k v).length≤es.length+1:=by
 induction es with
 | nil=>exact Nat.le_refl _
 | cons e r ih=>
  rw [nH]
  by_cases q:e.1.same k=true
  ·rw [if_pos q];exact Nat.le_succ _
  ·rw [if_neg q];exact Nat.succ_le_succ ih
section
variable{prog:Program}{w:World}{YC:Heap}{K:Frag}{T:Tab}
theorem Fy{own:ak}{h:Heap}{es:List (V×V)}{kvs:List (Str×Value)}(q:KV own h es kvs)(hn:(kvs.map (·.1)).Nodup):∀{i:Nat} {e:V×V},es[i]? =some e→∃k v,kvs[i]? =some (k,v)∧e.1= .str k.cps.toList∧VR own h e.2 v∧valueAt kvs k=some v:=by
 induction es generalizing kvs with
 | nil=>intro i e h';simp at h'
 | cons x r ih=>
  induction kvs using List.casesOn with
  | nil=>nomatch q.1
  | cons y kvs=>
   obtain ⟨q1,q2⟩:=q
   simp only [List.map_cons,List.cons.injEq] at q1
   cases q2 with
   | cons a b=>
   rw [List.map_cons,List.nodup_cons] at hn
   intro i e h'
   induction i using Nat.casesOn with
   | zero=>
    simp only [List.getElem?_cons_zero,Option.some.injEq] at h'
    subst h'
    refine ⟨y.1,y.2,rfl,q1.1,a, ?_⟩
    unfold valueAt
    rw [List.find?_cons,decide_eq_true rfl]
    rfl
   | succ i=>
    obtain ⟨k,v,z1,z2,z3,z4⟩:=ih ⟨q1.2,b⟩ hn.2 (i:=i) (by simpa using h')
    refine ⟨k,v,by simpa using z1,z2,z3, ?_⟩
    have hne:y.1≠k:=fun z=>hn.1 (by
     rw [z]
     exact List.mem_map.mpr ⟨(k,v),List.mem_of_getElem? z1,rfl⟩)
    unfold valueAt at z4 ⊢
    rw [List.find?_cons,decide_eq_false hne]
    exact z4
theorem Fz{x y:String}(hy:y≠x):∀(l:List V) (loc:Loc),Mine.get (l.foldl (fun l k=>put l x k) loc) y=Mine.get loc y
 | [],_=>rfl
 | k::r,loc=>by rw [List.foldl_cons,Fz hy r,cD,if_neg (Ne.symm hy)]
theorem qG{sc:SC}{env:Env}(he:cj env sc){A:Around}{own:ak}{s:Shared}{loc:Loc}{y:String}{yp:Pos}{v:V}{Q:Value→Shared→Prop}{E:Value→Shared→Prop}(F:FO YC env own s.heap loc)(hl:sc.lookup (nm y)=some .local)(h0:y≠".0")(hdb:(nm y==("__debug__":Str))=false)(hg:Mine.get loc y=some v)
  (k:∀val,VR own s.heap v val→Q val s):wpAny (model prog w) A (eval (.Name (nm y) yp) env) Q E s:=by
 rw [←he.names] at hl
 obtain ⟨m,n1,n2⟩:=F.ns
 obtain ⟨val,z1,z2⟩:=n2 y v hg hl h0
 exact wpAny_Name (wpAny_loadName_local he.kind hl n1.ns z1 (k val z2)) hdb
noncomputable def dF(eb:List (V×V))(i:Nat)(ea:List (V×V)):List (V×V):=(eb.take i).foldl (fun l e=>bC l e.1 e.2) ea
noncomputable def iY(eb:List (V×V))(i:Nat)(x:String)(loc:Loc):Loc:=((eb.take i).map (·.1)).foldl (fun l k=>put l x k) loc
inductive xH(prog:Program)(w:World)(YC:Heap)(T:Tab)(kvs:List (Str×Value))(ea eb:List (V×V))(ra rb It:Addr)(ob:Obj)(ep:Nat)(x:String)(loc:Loc)(own YF:ak)(H:MH)(h:Heap)(env:Env)(s:Shared)(n:Nat)(s':Shared):Prop
 | mk (h':Heap) (tk i:Nat):s'=aF s h' tk→n=kvs.length - i→i≤kvs.length→(bU ((dF eb i ea).map (·.1))).isSome=true→(dF eb i ea).length≤ea.length+i→
   Ok prog w T YC YF (H.upd ra (.dict (dF eb i ea))) h'→aH (bQ env) own H h YF (H.upd ra (.dict (dF eb i ea))) h'→FO YC env YF h' (iY eb i x loc)→h'.IsKeyIter It rb i kvs.length ep→h'.get? rb=some ob→xH prog w YC T kvs ea eb ra rb It ob ep x loc own YF H h env s n s'
section
variable{sc:SC}{x a b:String}{xp bp ap xp2 sp bp2 xp3 sp2 p2:Pos}(hx:sc.lookup (nm x)=some .local)(ha:sc.lookup (nm a)=some .local)(hb:sc.lookup (nm b)=some .local)(zx:x≠".0")(za:a≠".0")(zb:b≠".0")
  (dx:(nm x==("__debug__":Str))=false) (da:(nm a==("__debug__":Str))=false) (db:(nm b==("__debug__":Str))=false)
  {env:Env} (he:cj env sc) {d:Nat} {hd:Option Nat} {fr:List Env} {loc:Loc} {H:MH} {A:Around} {own YF:ak} {h:Heap} {s:Shared}
  (I:bF prog w YC T fr hd d A own H h) (F:FO YC env own h loc) {ra rb It:Nat} (hla:Mine.get loc a=some (.ref ra)) (hlb:Mine.get loc b=some (.ref rb)) {ea eb:List (V×V)} (hHb:H rb=some (.dict eb))
  (hne:ra≠rb) (hxa:x≠a) (hxb:x≠b) (hsb:(bU (eb.map (·.1))).isSome=true) (hlen:ea.length+eb.length<1000)
  {kvs:List (Str×Value)} (d3:KV own h eb kvs) (hn:(kvs.map (·.1)).Nodup) (hl:eb.length=kvs.length) {ep:Nat} {ob:Obj} (dat:h.DictAt (strKind prog w) rb kvs ep) (hob:h.get? rb=some ob)
  (fI:h.get? It=none) (bI:YC.get? It=none) (oI:YF It=none) (hrbI:rb≠It) (hraI:ra≠It) (nI: ¬bQ env It)
include hx ha hb zx za zb dx da db he I F hla hlb hHb hne hxa hxb hsb hlen d3 hn hl dat hob fI bI oI hrbI hraI nI
theorem RM{Q:Result→Shared→Prop}(ks:∀YD H' h' tk,Ok prog w T YC YD H' h'→aH (bQ env) own H h YD H' h'→H'=H.upd ra (.dict (dF eb eb.length ea))→FO YC env YD h' (iY eb eb.length x loc)→Q (.ok .next) (aF s h' tk))(n:Nat)(s₁:Shared)
  (CI:xH prog w YC T kvs ea eb ra rb It ob ep x loc own YF H h env s n s₁):
  codeAny (model prog w) A (.forLoop (.Name (nm x) xp) (.ref It) [.Assign [.Subscript (.Name (nm a) ap) (.Name (nm x) xp2) sp] (.Subscript (.Name (nm b) bp2) (.Name (nm x) xp3) sp2) p2] [] env) Q s₁:=by
 refine Fe (xH prog w YC T kvs ea eb ra rb It ob ep x loc own YF H h env s) (fun n s₁ CI=> ?_) n CI
 obtain ⟨h',tk,i,rfl,rfl,hil,hsi,hli,O,X,F',it',hob'⟩:=CI
 have dat':h'.DictAt (strKind prog w) rb kvs ep:=by obtain ⟨o1,es1,z1,zr⟩:=dat;rw [hob] at z1;obtain rfl:=Option.some.inj z1;exact ⟨ob,es1,hob',zr⟩
 have I':=I.stepF O X F F'
 have hHb':(H.upd ra (.dict (dF eb i ea))) rb=some (.dict eb):=by unfold MH.upd;rw [if_neg (Ne.symm hne)];exact hHb
 obtain ⟨oIt,eIt,cIt,dIt⟩:=id it'
 have ntI: ¬gP oIt:=fun ⟨_,_,_,z⟩=>by rw [dIt] at z;injection z
 have oI':YF It=none:=oI
 induction hkv:kvs[i]? using Option.casesOn with
 | none=>
  refine RJ I'.hg it' dat' hkv fun h2 eb2 hh=> ?_
  obtain ⟨O2,Y2⟩:=O.but eIt eb2 oI' bI ntI hh (F:=(· =It)) rfl
  have X2:=X.trans_new Y2 (by rintro _ rfl;exact fI)
  have F2:=F'.keepG Y2 (fun z=>nI (.inl z.symm)) (by rintro _ rfl;exact ⟨_,eIt,fun v z=>by rw [dIt] at z;injection z⟩)
  have hi:i=kvs.length:=Nat.le_antisymm hil (List.getElem?_eq_none_iff.mp hkv)
  have hi:i=eb.length:=hi.trans hl.symm
  subst hi
  exact wpAny_execs_nil (ks _ _ _ tk O2 X2 rfl F2)
 | some kv=>
  obtain ⟨key,vl⟩:=kv
  have hlt:i<kvs.length:=by
   rcases Nat.lt_or_ge i kvs.length with q | q
   ·exact q
   ·rw [List.getElem?_eq_none q] at hkv;exact aG hkv
  have hle:=Nat.lt_of_lt_of_eq hlt hl.symm
  obtain ⟨e,he'⟩:∃e,eb[i]? =some e:=⟨eb[i],List.getElem?_eq_getElem hle⟩
  refine wpAny_pyNext_dict_item it' dat' hkv fun keyv h2 hkey it2 sb=> ?_
  obtain ⟨t,rfl⟩:=Value.isStrOf_shape hkey
  obtain ⟨o2,e2,_⟩:=id it2
  obtain ⟨O2,Y2⟩:=O.other eIt sb oI' bI ntI ⟨o2,e2⟩ (F:=(· =It)) rfl
  have X2:=X.trans_new Y2 (by rintro _ rfl;exact fI)
  have F2:=F'.keepG Y2 (fun z=>nI (.inl z.symm)) (by rintro _ rfl;exact ⟨_,eIt,fun v z=>by rw [dIt] at z;injection z⟩)
  have hob2:h2.get? rb=some ob:=(sb.2 rb hrbI).trans hob'
  refine wpAny_pure ?_
  have rk:VR YF h2 (.str key.cps.toList) (.str key t):=by
   have z:=VR.str (own:=YF) (h:=h2) key.cps.toList t
   rw [jz] at z;exact z
  refine wpAny_assign_Name (qy (s:=(aF s h2 tk)) he hx O2 F2 rk fun h3 tk3 O3 Y3 F3 sb3=> ?_)
  have hLb:rb≠env.locals:=fun z=>by have:=(O3.rep _ _ hHb').1;rw [z,F3.ownL] at this;exact aG this
  have hLI:It≠env.locals:=fun z=>nI (.inl z)
  have hob3:h3.get? rb=some ob:=(sb3.2 rb hLb).trans hob2
  have it3:h3.IsKeyIter It rb (i+1) kvs.length ep:=by obtain ⟨o,q1,q2⟩:=it2;exact ⟨o,(sb3.2 It hLI).trans q1,q2⟩
  have X3:aH (bQ env) own H h YF _ h3:=X2.trans (Y3.mono fun zz z=> .inl z)
  have gx:Mine.get (put (iY eb i x loc) x (.str key.cps.toList)) x=some (.str key.cps.toList):=by rw [cD,if_pos rfl]
  have gl:∀y,y≠x→Mine.get (iY eb i x loc) y=Mine.get loc y:=fun y hy=>by
   exact Fz hy _ _
  have ga:Mine.get (put (iY eb i x loc) x (.str key.cps.toList)) a=some (.ref ra):=by rw [cD,if_neg hxa,gl a (Ne.symm hxa)];exact hla
  have gb:Mine.get (put (iY eb i x loc) x (.str key.cps.toList)) b=some (.ref rb):=by rw [cD,if_neg hxb,gl b (Ne.symm hxb)];exact hlb
  have R3:=(O3.rep _ _ hHb').2
  obtain ⟨kvs3,d13,d23,d33⟩:=R3.dict_str (xG (k:= []) hsb)
  have hn3:(kvs3.map (·.1)).Nodup:=by obtain ⟨_,_,_,_,_,_,_,_,z⟩:=id d13;exact z
  obtain ⟨k3,v3,z1,z2,z3,z4⟩:=Fy d33 hn3 he'
  obtain ⟨k4,v4,w1,w2,_,_⟩:=Fy d3 hn he'
  rw [hkv] at w1;cases w1
  have hk3:k3=key:=by
   rw [z2] at w2
   injection w2 with w2
   have:=congrArg aJ w2
   rwa [jz,jz] at this
  subst hk3
  refine wpAny_execs_cons (wpAny_Assign_Subscript ?_)
  refine Subscript_ (qG he F3 hb zb db gb fun bv rbv=> ?_)
  obtain rfl:=rbv.e_ref
  refine qG he F3 hx zx dx gx fun xv rxv=> ?_
  refine VR.k_str rxv fun t3=> ?_
  rw [jz]
  refine qx (T:="dict") (by obtain ⟨o,_,_,y1,y2,_⟩:=d13;exact ⟨o,y1,y2.1⟩) PySem.slot_dict_getitem.lookup ?_ rfl
  refine wpAny_getItem_of (strKind_is prog w _ t3) d13.mapOf z4 ?_
  refine qG (s:=aF s h3 _) he F3 ha za da ga fun av rav=> ?_
  obtain rfl:=rav.e_ref
  refine qG (s:=aF s h3 _) he F3 hx zx dx gx fun xv rxv=> ?_
  refine VR.k_str rxv fun t4=> ?_
  rw [jz]
  have hHa3:(H.upd ra (.dict (dF eb i ea))) ra=some (.dict (dF eb i ea)):=by unfold MH.upd;rw [if_pos rfl]
  obtain ⟨kva,a1,a2,a3⟩:=(O3.rep _ _ hHa3).2.dict_str (xG (k:=k3.cps.toList) hsi)
  have hna:(kva.map (·.1)).Nodup:=by obtain ⟨_,_,_,_,_,_,_,_,z⟩:=id a1;exact z
  have hla':kva.length=(dF eb i ea).length:=by have:=congrArg List.length a3.1;simpa using this.symm
  refine wpAny_setItem_pairs (knd:=strKind prog w) (k:=k3) (strKind_is prog w k3 t4) a1 (fun h4 d4 sb4=> ?_) (by rw [←gB];exact Nat.le_of_lt (Nat.lt_of_lt_of_le (Nat.lt_of_le_of_lt (Nat.le_trans (Nat.le_of_eq hla') hli) (Nat.lt_trans (Nat.add_lt_add_left hle _) hlen)) (Nat.le_of_ble_eq_true rfl:1000≤bh)))
  have q4:=a3.store k3.cps.toList z3 hna
  rw [jz] at q4
  obtain ⟨O4,X4⟩:=Ok.updD (s:=(aF s h3 tk3)) O3 hHa3 (es':=bC (dF eb i ea) (.str k3.cps.toList) e.2) sb4 (fun tk=> .dictS d4 a2 (q4.keep tk).1 (q4.keep tk).2) (by obtain ⟨o,_,_,z,_⟩:=id d4;exact ⟨o,z⟩)
  have hupd:(H.upd ra (.dict (dF eb i ea))).upd ra (.dict (bC (dF eb i ea) (.str k3.cps.toList) e.2))=H.upd ra (.dict (bC (dF eb i ea) (.str k3.cps.toList) e.2)):=by
   funext z;unfold MH.upd;split<;>rfl
  rw [hupd] at O4 X4
  have htk:eb.take (i+1)=eb.take i++ [e]:=by rw [List.take_add_one,he'];rfl
  have e1:dF eb (i+1) ea=bC (dF eb i ea) (.str k3.cps.toList) e.2:=by unfold dF;rw [htk,List.foldl_append,←z2];rfl
  have e2:iY eb (i+1) x loc=put (iY eb i x loc) x (.str k3.cps.toList):=by unfold iY;rw [htk,List.map_append,List.foldl_append,←z2];rfl
  have hll:= @RL (dF eb i ea) (.str k3.cps.toList) e.2
  rw [←e1] at O4 X4 hll
  exact wpAny_execs_nil ⟨kvs.length - (i+1),Nat.sub_succ_lt_self _ _ hlt, .mk h4 _ (i+1) rfl rfl hlt (by rw [e1];exact RK hsi) (Nat.le_trans hll (Nat.succ_le_succ hli)) O4 (X3.trans X4.any) (by rw [e2];exact F3.keep X4)
   (by obtain ⟨o,q1,q2⟩:=it3;exact ⟨o,(sb4.2 It (Ne.symm hraI)).trans q1,q2⟩) ((sb4.2 rb (Ne.symm hne)).trans hob3)⟩
end
theorem RN{sc:SC}{x a b:String}{xp bp ap xp2 sp bp2 xp3 sp2 p2 p:Pos}(hx:sc.lookup (nm x)=some .local)(ha:sc.lookup (nm a)=some .local)(hb:sc.lookup (nm b)=some .local)(zx:x≠".0")(za:a≠".0")(zb:b≠".0")
  (dx:(nm x==("__debug__":Str))=false) (da:(nm a==("__debug__":Str))=false) (db:(nm b==("__debug__":Str))=false):
  SS prog w YC T sc (.For (.Name (nm x) xp) (.Name (nm b) bp) [.Assign [.Subscript (.Name (nm a) ap) (.Name (nm x) xp2) sp] (.Subscript (.Name (nm b) bp2) (.Name (nm x) xp3) sp2) p2] [] p) (.copyAll x a b):=by
 intro env C d N hd fr loc H Q E he hc ht hw A own s Q' E' I F ks kx
 refine aa.el hw fun ra hra h1=>aa.el h1 fun rb hrb h2=>aa.el h2 fun ea hea h3=>aa.el h3 fun eb heb h4=>cg hra fun va hla e1=>cg hrb fun vb hlb e2=> ?_
 obtain rfl:=dD e1
 obtain rfl:=dD e2
 obtain ⟨hne,hxa,hxb,hsa,hsb,hlen,hq⟩:=h4
 have hHa:=ql hea
 have hHb:=ql heb
 clear hw h1 h2 h3 hra hrb e1 e2 hea heb
 refine wpAny_For (qG he F hb zb db hlb fun bval rb'=> ?_) (fun zz=>rfl)
 obtain rfl:=rb'.e_ref
 obtain ⟨kvs,d1,d2,d3⟩:=(I.ok.rep _ _ hHb).2.dict_str (xG (k:= []) hsb)
 have hn:(kvs.map (·.1)).Nodup:=by obtain ⟨_,_,_,_,_,_,_,_,z⟩:=id d1;exact z
 have hl:eb.length=kvs.length:=by have:=congrArg List.length d3.1;simpa using this
 obtain ⟨ep,dat⟩:=d1.dictAt
 obtain ⟨ob,oes,hob,_⟩:=id dat
 refine wpAny_pyIter_dict d2 dat ?_
 obtain ⟨O1,X1,oI⟩:=I.ok.loose {cls:= .type "dict_keyiterator",data:= .fields #[.ref rb, .int 0 0, .int kvs.length 0, .int ep 0]}
 have fI:s.heap.get? s.heap.objs.size=none:=mQ
 obtain ⟨oa,hoa⟩:=(I.ok.rep _ _ hHa).2.there
 have nI: ¬bQ env s.heap.objs.size:=by
  rintro (q | ⟨y,k,q⟩)
  ·obtain ⟨m,⟨o,_,_,e,_⟩,_⟩:=F.ns
   rw [←q,fI] at e;exact aG e
  ·obtain ⟨c,o,vo,q1,q2,q3,q4,_⟩:=F.cell y k
   rw [q] at q1;obtain rfl:=Option.some.inj q1;rw [fI] at q4;exact aG q4
 have e0:H.upd ra (.dict (dF eb 0 ea))=H:=oN hHa
 have e3:dF eb eb.length ea=eb.foldl (fun l e=>bC l e.1 e.2) ea:=by unfold dF;rw [List.take_length]
 have e4:iY eb eb.length x loc=(eb.map (·.1)).foldl (fun l k=>put l x k) loc:=by unfold iY;rw [List.take_length]
 exact RM hx ha hb zx za zb dx da db he I F hla hlb hHb hne hxa hxb hsb hlen d3 hn hl dat hob fI (I.ok.none_of (Nat.le_refl _)) oI (fun z=>by rw [z,fI] at hob;exact aG hob) (fun z=>by rw [z,fI] at hoa;exact aG hoa) nI
  (fun YD H' h' tk O X e F=>ks _ _ _ _ _ tk _ (by rw [e,e3];exact hq) O X (by rw [←e4];exact F) .next) kvs.length _
  (.mk _ s.toks 0 rfl rfl (Nat.zero_le _) hsa (Nat.le_refl _) (by rw [e0];exact O1) (by rw [e0];exact X1.any) (F.keep X1) ⟨_,Heap.get?_push_size _ rfl,rfl,rfl⟩ (Heap.get?_push_of_some _ hob))
end
section
variable{P:Prop}
theorem az{a b:Bool}(h:(a && b)=true)(k:a=true→b=true→P):P:=k (Bool.and_eq_true_iff.mp h).1 (Bool.and_eq_true_iff.mp h).2
end
theorem jZ{α β:Type}{f:α→β→Bool}{R:List α→List β→Prop}(nil:R [] [])(cons:∀a b r q,f a b=true→R r q→R (a::r) (b::q)):∀{xs:List α} {ys:List β},dY f xs ys=true→R xs ys
 | [],ys,h=>by induction ys using List.casesOn with
  | nil=>exact nil
  | cons=>exact bz h
 | a::r,ys,h=>by induction ys using List.casesOn with
  | nil=>exact bz h
  | cons b q=>exact az h fun h1 h2=>cons _ _ _ _ h1 (jZ nil cons h2)
@[elab_as_elim] theorem jA {α:Type} {xs:List α} {k:α→Bool} {motive:List α→Prop} (h:fU xs k=true) (f:∀x,k x=true→motive [x]):motive xs:=by
 induction xs using List.casesOn with
 | nil=>exact bz h
 | cons x r=>induction r using List.casesOn with
  | nil=>exact f x h
  | cons=>exact bz h
@[elab_as_elim] theorem xJ {α:Type} {o:Option α} {k:α→Bool} {motive:Option α→Prop} (h:gA o k=true) (f:∀x,k x=true→motive (some x)):motive o:=by
 induction o using Option.casesOn with
 | none=>exact bz h
 | some x=>exact f x h
@[elab_as_elim] theorem jB {α:Type} {xs:List α} {motive:List α→Prop} (h:xs.isEmpty=true) (f:motive []):motive xs:=by
 induction xs using List.casesOn with
 | nil=>exact f
 | cons=>exact bz h
@[elab_as_elim] theorem FJ {e:Expr} {k:(Const)→Bool} {motive:Expr→Prop} (h:v7 e k=true) (f:∀(c:Const) (j:Nat) (p:Pos),k c=true→motive (.Constant c j p)):motive e:=by
 induction e using PySem.Expr.casesOn<;>first | exact f _ _ _ h | exact absurd h Bool.false_ne_true
@[elab_as_elim] theorem fj {e:Expr} {k:(Str)→Bool} {motive:Expr→Prop} (h:dJ e k=true) (f:∀(id:Str) (p:Pos),k id=true→motive (.Name id p)):motive e:=by
 induction e using PySem.Expr.casesOn<;>first | exact f _ _ h | exact absurd h Bool.false_ne_true
@[elab_as_elim] theorem ud {e:Expr} {k:(Expr)→(Str)→(Pos)→Bool} {motive:Expr→Prop} (h:pY e k=true) (f:∀(o:Expr) (m:Str) (p:Pos),k o m p=true→motive (.Attribute o m p)):motive e:=by
 induction e using PySem.Expr.casesOn<;>first | exact f _ _ _ h | exact absurd h Bool.false_ne_true
@[elab_as_elim] theorem xK {e:Expr} {k:(Expr)→(List Expr)→(List Keyword)→(Pos)→Bool} {motive:Expr→Prop} (h:sV e k=true) (f:∀(fn:Expr) (as:List Expr) (kw:List Keyword) (p:Pos),k fn as kw p=true→motive (.Call fn as kw p)):motive e:=by
 induction e using PySem.Expr.casesOn<;>first | exact f _ _ _ _ h | exact absurd h Bool.false_ne_true
@[elab_as_elim] theorem RP {e:Expr} {k:(Expr)→(Operator)→(Expr)→Bool} {motive:Expr→Prop} (h:Ab e k=true) (f:∀(a:Expr) (op:Operator) (b:Expr) (p:Pos),k a op b=true→motive (.BinOp a op b p)):motive e:=by
 induction e using PySem.Expr.casesOn<;>first | exact f _ _ _ _ h | exact absurd h Bool.false_ne_true
@[elab_as_elim] theorem FN {e:Expr} {k:(UnaryOp)→(Expr)→Bool} {motive:Expr→Prop} (h:v8 e k=true) (f:∀(op:UnaryOp) (a:Expr) (p:Pos),k op a=true→motive (.UnaryOp op a p)):motive e:=by
 induction e using PySem.Expr.casesOn<;>first | exact f _ _ _ h | exact absurd h Bool.false_ne_true
@[elab_as_elim] theorem RQ {e:Expr} {k:(BoolOp)→(List Expr)→Bool} {motive:Expr→Prop} (h:Ac e k=true) (f:∀(op:BoolOp) (es:List Expr) (p:Pos),k op es=true→motive (.BoolOp op es p)):motive e:=by
 induction e using PySem.Expr.casesOn<;>first | exact f _ _ _ h | exact absurd h Bool.false_ne_true
@[elab_as_elim] theorem FP {e:Expr} {k:(Expr)→(List CmpOp)→(List Expr)→Bool} {motive:Expr→Prop} (h:v9 e k=true) (f:∀(a:Expr) (ops:List CmpOp) (bs:List Expr) (p:Pos),k a ops bs=true→motive (.Compare a ops bs p)):motive e:=by
 induction e using PySem.Expr.casesOn<;>first | exact f _ _ _ _ h | exact absurd h Bool.false_ne_true
@[elab_as_elim] theorem RT {e:Expr} {k:(Expr)→(Expr)→(Expr)→Bool} {motive:Expr→Prop} (h:Ad e k=true) (f:∀(c:Expr) (a:Expr) (b:Expr) (p:Pos),k c a b=true→motive (.IfExp c a b p)):motive e:=by
 induction e using PySem.Expr.casesOn<;>first | exact f _ _ _ _ h | exact absurd h Bool.false_ne_true
@[elab_as_elim] theorem RV {e:Expr} {k:(List Expr)→Bool} {motive:Expr→Prop} (h:Ae e k=true) (f:∀(es:List Expr) (p:Pos),k es=true→motive (.List es p)):motive e:=by
 induction e using PySem.Expr.casesOn<;>first | exact f _ _ h | exact absurd h Bool.false_ne_true
@[elab_as_elim] theorem ue {e:Expr} {k:(List Expr)→Bool} {motive:Expr→Prop} (h:lr e k=true) (f:∀(es:List Expr) (j:Nat) (p:Pos),k es=true→motive (.Tuple es j p)):motive e:=by
 induction e using PySem.Expr.casesOn<;>first | exact f _ _ _ h | exact absurd h Bool.false_ne_true
@[elab_as_elim] theorem RW {e:Expr} {k:(List (Option Expr))→(List Expr)→Bool} {motive:Expr→Prop} (h:Af e k=true) (f:∀(ks:List (Option Expr)) (es:List Expr) (p:Pos),k ks es=true→motive (.Dict ks es p)):motive e:=by
 induction e using PySem.Expr.casesOn<;>first | exact f _ _ _ h | exact absurd h Bool.false_ne_true
@[elab_as_elim] theorem qH {e:Expr} {k:(Expr)→(Expr)→Bool} {motive:Expr→Prop} (h:nW e k=true) (f:∀(a:Expr) (i:Expr) (p:Pos),k a i=true→motive (.Subscript a i p)):motive e:=by
 induction e using PySem.Expr.casesOn<;>first | exact f _ _ _ h | exact absurd h Bool.false_ne_true
@[elab_as_elim] theorem RX {e:Expr} {k:(Option Expr)→(Option Expr)→(Option Expr)→Bool} {motive:Expr→Prop} (h:Ag e k=true) (f:∀(lo:Option Expr) (hi:Option Expr) (st:Option Expr) (p:Pos),k lo hi st=true→motive (.Slice lo hi st p)):motive e:=by
 induction e using PySem.Expr.casesOn<;>first | exact f _ _ _ _ h | exact absurd h Bool.false_ne_true
@[elab_as_elim] theorem RZ {e:Expr} {k:(Expr)→(List Comprehension)→(Scope)→Bool} {motive:Expr→Prop} (h:Ah e k=true) (f:∀(a:Expr) (gs:List Comprehension) (scope:Scope) (p:Pos),k a gs scope=true→motive (.ListComp a gs scope p)):motive e:=by
 induction e using PySem.Expr.casesOn<;>first | exact f _ _ _ _ h | exact absurd h Bool.false_ne_true
@[elab_as_elim] theorem R0 {e:Stmt} {k:(Expr)→Bool} {motive:Stmt→Prop} (h:Ai e k=true) (f:∀(e:Expr) (p:Pos),k e=true→motive (.Expr e p)):motive e:=by
 induction e using PySem.Stmt.casesOn<;>first | exact f _ _ h | exact absurd h Bool.false_ne_true
@[elab_as_elim] theorem FQ {e:Stmt} {k:(List Expr)→(Expr)→Bool} {motive:Stmt→Prop} (h:wi e k=true) (f:∀(ts:List Expr) (e:Expr) (p:Pos),k ts e=true→motive (.Assign ts e p)):motive e:=by
 induction e using PySem.Stmt.casesOn<;>first | exact f _ _ _ h | exact absurd h Bool.false_ne_true
@[elab_as_elim] theorem FT {e:Stmt} {k:(Expr)→(Operator)→(Expr)→Bool} {motive:Stmt→Prop} (h:wj e k=true) (f:∀(t:Expr) (op:Operator) (e:Expr) (p:Pos),k t op e=true→motive (.AugAssign t op e p)):motive e:=by
 induction e using PySem.Stmt.casesOn<;>first | exact f _ _ _ _ h | exact absurd h Bool.false_ne_true
@[elab_as_elim] theorem R1 {e:Stmt} {k:(Option Expr)→Bool} {motive:Stmt→Prop} (h:Aj e k=true) (f:∀(e:Option Expr) (p:Pos),k e=true→motive (.Return e p)):motive e:=by
 induction e using PySem.Stmt.casesOn<;>first | exact f _ _ h | exact absurd h Bool.false_ne_true
@[elab_as_elim] theorem R4 {e:Stmt} {k:(Expr)→(List Stmt)→(List Stmt)→Bool} {motive:Stmt→Prop} (h:Ak e k=true) (f:∀(c:Expr) (a:List Stmt) (b:List Stmt) (p:Pos),k c a b=true→motive (.If c a b p)):motive e:=by
 induction e using PySem.Stmt.casesOn<;>first | exact f _ _ _ _ h | exact absurd h Bool.false_ne_true
@[elab_as_elim] theorem R5 {e:Stmt} {k:(Expr)→(List Stmt)→(List Stmt)→Bool} {motive:Stmt→Prop} (h:Al e k=true) (f:∀(c:Expr) (a:List Stmt) (b:List Stmt) (p:Pos),k c a b=true→motive (.While c a b p)):motive e:=by
 induction e using PySem.Stmt.casesOn<;>first | exact f _ _ _ _ h | exact absurd h Bool.false_ne_true
@[elab_as_elim] theorem FW {e:Stmt} {k:(Expr)→(Expr)→(List Stmt)→(List Stmt)→Bool} {motive:Stmt→Prop} (h:wu e k=true) (f:∀(t:Expr) (it:Expr) (a:List Stmt) (b:List Stmt) (p:Pos),k t it a b=true→motive (.For t it a b p)):motive e:=by
 induction e using PySem.Stmt.casesOn<;>first | exact f _ _ _ _ _ h | exact absurd h Bool.false_ne_true
@[elab_as_elim] theorem R6 {e:Stmt} {k:(Pos)→Bool} {motive:Stmt→Prop} (h:Am e k=true) (f:∀(p:Pos),k p=true→motive (.Continue p)):motive e:=by
 induction e using PySem.Stmt.casesOn<;>first | exact f _ h | exact absurd h Bool.false_ne_true
@[elab_as_elim] theorem R7 {e:Stmt} {k:(Option Expr)→(Option Expr)→Bool} {motive:Stmt→Prop} (h:onRaise e k=true) (f:∀(e:Option Expr) (c:Option Expr) (p:Pos),k e c=true→motive (.Raise e c p)):motive e:=by
 induction e using PySem.Stmt.casesOn<;>first | exact f _ _ _ h | exact absurd h Bool.false_ne_true
@[elab_as_elim] theorem FZ {e:Stmt} {k:(List Stmt)→(List ExceptHandler)→(List Stmt)→(List Stmt)→Bool} {motive:Stmt→Prop} (h:ww e k=true) (f:∀(a:List Stmt) (hs:List ExceptHandler) (b:List Stmt) (fin:List Stmt) (p:Pos),k a hs b fin=true→motive (.Try a hs b fin p)):motive e:=by
 induction e using PySem.Stmt.casesOn<;>first | exact f _ _ _ _ _ h | exact absurd h Bool.false_ne_true
theorem xM{g:dK}{sc:SC}{id:Str}{v:Value}(h:pZ g sc id v=true):∃x,id=nm x∧sc.lookup (nm x)=some .globalImplicit∧(nm x==("__debug__":Str))=false∧jR g x=some v:=by
 unfold pZ at h
 generalize hp:(g.find? fun p=>nm p.1==id)=o at h
 induction o using Option.casesOn with
 | none=>exact bz h
 | some p=>
  have e:nm p.1=id:=eq_of_beq (List.find?_some (p:=fun p:String×Value=>nm p.1==id) hp)
  subst e
  exact az h fun h1 h=>az h fun h2 h3=>⟨p.1,rfl,eq_of_beq h2,Bool.not_eq_true' _▸h3,eq_of_beq h1⟩
theorem qI{sc:SC}{x:String}(h:mj sc x=true):lC sc x:=(Bool.or_eq_true_iff.mp h).imp eq_of_beq eq_of_beq
theorem oR{sc:SC}{x:String}(h:ik sc x=true):sc.lookup (nm x)=some .local:=eq_of_beq h
theorem not_true{b:Bool}(h:(!b)=true):b=false:=by induction b using Bool.casesOn<;>first | rfl | exact bz h
theorem R8{ks:List (Option Expr)}{vs:List V}(h:dY An ks vs=true):mJ ks vs:=by
 refine jZ .nil (fun k v ks vs h r=> ?_) h
 refine xJ h fun e h=>FJ h fun c j p h=> ?_
 induction c using PySem.Const.casesOn with
 | str s=>
  induction v using V.casesOn with
  | str t=>obtain rfl:=Option.some.inj (eq_of_beq ((Bool.or_false (some s.cps.toList==some t)).symm.trans h));exact .cons r
  | _=>exact bz h
 | _=>exact bz h
theorem R9{g:dK}{sc:SC}{es:List Expr}{vs:List V}(h:dY (Ao g sc) es vs=true):mK (jR g) sc es vs:=by
 refine jZ .nil (fun e v es vs h r=> ?_) h
 refine fj h fun id p h=> ?_
 induction v using V.casesOn with
 | con u=>
  obtain ⟨x,rfl,a,b,c⟩:=xM h
  exact .cons a b c r
 | _=>exact bz h
theorem Sd{sc:SC}{es:List Expr}{xs:List String}(h:dY (fun e x=>dJ e fun id=>id==nm x && mj sc x) es xs=true):mR sc es xs:=by
 refine jZ .nil (fun e x es xs h r=> ?_) h
 exact fj h fun id p h=>az h fun h1 h2=>by obtain rfl:=eq_of_beq h1;exact .cons (qI h2) r
theorem Sg{sc:SC}{scope:Scope}{x:String}(h:wz sc scope x=true):scope.kind= .function∧scope.names.lookup (nm x)=some .local∧(∀y∈scope.names,y.2= .local→y.1=nm x∨y.1=nm ".0"∧scope.names.lookup y.1=some .local)∧(∀y∈scope.names,y.2≠ .cell)∧(∀y∈scope.names,y.2= .free→sc.lookup y.1=some .cell):=by
 unfold wz at h
 simp only [Bool.and_eq_true,beq_iff_eq,List.all_eq_true,Bool.or_eq_true,bne_iff_ne] at h
 obtain ⟨h1,h2,h3,h4,h5⟩:=h
 exact ⟨h1,h2,fun y hy e=>(h3 y hy).imp (fun z=>z.resolve_left fun z=>z e) id,h4,fun y hy e=>(h5 y hy).resolve_left fun z=>z e⟩
theorem xN:∀{xs:List String},mz xs=true→xs.Nodup
 | [],_=> .nil
 | x::r,h=>az h fun h1 h2=>List.nodup_cons.mpr ⟨by simpa using h1,xN h2⟩
theorem Ga{ss:List Str}{xs:List String}(h:nY ss xs=true):ss=xs.map nm:=jZ (R:=fun ss xs=>ss=xs.map nm) rfl (fun s x ss xs h r=>by rw [eq_of_beq h,r];rfl) h
theorem xO{x:String}(h:sX x=true):(nm x==("__debug__":Str))=false:=not_true h
theorem Sh{a b:V}{c:Const}(ha:cV c=some a)(h:V.sameF a b=true):a=b:=by
 induction a using V.casesOn with
 | none=>exact (mH h).symm
 | bool x=>exact (mG (eq_of_beq h)).symm
 | int x=>exact (dN (eq_of_beq h)).symm
 | str x=>exact (lA (eq_of_beq h)).symm
 | _=>exact bz h
section
variable{prog:Program}{w:World}{YC:Heap}{K:Frag}{T:Tab}
noncomputable def qJ(prog:Program)(w:World)(YC:Heap)(T:Tab)(sc:SC)(e:Expr)(x:X):Prop:=SE prog w YC T sc e x∧fc prog w YC T sc e x
theorem eN{sc:SC}{e:Expr}{x:X}(ha:SE prog w YC T sc e x)(hp:Dl e=true)
  (hx:∀C hd loc H Q E,wc T C hd x loc H (fun q=>we T C hd x loc H q E) Q E→we T C hd x loc H (vX Q) E):qJ prog w YC T sc e x:=⟨ha,Ot ha hp hx⟩
section
variable{g:dK}{rec:ju}(G:Gd prog w YC K T)(hg:T.glob=jR g)(ih:∀{sc e x},rec sc e x=true→qJ prog w YC T sc e x)
include ih
theorem j0{sc:SC}{es:List Expr}{xs:List X}(h:my rec sc es xs=true):dq prog w YC T sc es xs:=
 jZ .nil (fun zz zz zz zz h r=>az h fun h1 h2=> .cons (ih h2).1 (ih h2).2 h1 r) h
theorem Gb{sc:SC}{e:Option Expr}{x:X}(h:wB rec sc e x=true):SO prog w YC T sc e x:=by
 induction e using Option.casesOn with
 | some e=>exact Oc (ih h).1
 | none=>induction x using X.casesOn with
  | k v=>obtain rfl:=mH h;exact Ob
  | _=>exact bz h
include G hg
theorem Ge{sc:SC}{e:Expr}{rng:Bool}{x:X}(h:wA g rec sc e rng x=true):SI prog w YC T sc e rng x:=by
 induction rng using Bool.casesOn with
 | false=>exact QC (ih h).1
 | true=>
  refine xK h fun f as kw p h=>fj h fun id p' h=>az h fun h1 h=>jB h1 (jA h fun a h=>az h fun h2 h=>az h fun h3 h=>az h fun h4 h=>az h fun h5 h6=> ?_)
  obtain rfl:=eq_of_beq h2
  exact QD G (xj G (eq_of_beq h3) (by decide) (by rw [hg];exact eq_of_beq h4)) (Dw (ih h6).1 h5 Dv) h5
structure Sq(prog:Program)(w:World)(YC:Heap)(T:Tab)(sc:SC)(elt it:Expr)(ifs:List Expr)(scope:Scope)(xe:X)(y:String)(rng:Bool)(xi:X)(xs:List X):Prop where
 i:SI prog w YC T sc it rng xi
 ifs:dq prog w YC T (cZ sc scope.names) ifs xs
 elt:SE prog w YC T (cZ sc scope.names) elt xe
 sc:scope.kind= .function∧scope.names.lookup (nm y)=some .local∧(∀z∈scope.names,z.2= .local→z.1=nm y∨z.1=nm ".0"∧scope.names.lookup z.1=some .local)∧(∀y∈scope.names,y.2≠ .cell)∧(∀y∈scope.names,y.2= .free→sc.lookup y.1=some .cell)
 ns:gq it=true
theorem Gf{sc:SC}{e:Expr}{xe:X}{y:String}{rng:Bool}{xi:X}{xs:List X}(h:qb g rec sc e xe y rng xi xs=true):
  ∃elt xp it ifs scope pos,e= .ListComp elt [⟨.Name (nm y) xp,it,ifs,0⟩] scope pos∧Sq prog w YC T sc elt it ifs scope xe y rng xi xs:=by
 refine RZ h fun elt gs scope pos h=>jA h fun c h=> ?_
 obtain ⟨t,it,ifs,as⟩:=c
 dsimp only at h
 refine fj h fun id xp h=>az h fun h0 h=>az h fun h1 h=>az h fun h2 h=>az h fun h3 h=>az h fun h4 h=>az h fun h5 h6=> ?_
 obtain rfl:=eq_of_beq h0;obtain rfl:=eq_of_beq h1
 exact ⟨elt,xp,it,ifs,scope,pos,rfl,Ge G hg ih h4,j0 ih h5,(ih h6).1,Sg h2,h3⟩
theorem Ss{sc:SC}{e:Expr}{x:X}(h:Aq g rec sc e x=true):qJ prog w YC T sc e x:=by
 induction x using X.casesOn with
 | k v=>
  induction v using V.casesOn with
  | con u=>
   refine fj h fun id p h=> ?_
   obtain ⟨x,rfl,a,b,c⟩:=xM h
   exact eN (xj G a b (by rw [hg];exact c)) rfl fun zz zz zz zz zz zz h=>h
  | _=>
   refine FJ h fun c j p h=> ?_
   induction hc:cV c using Option.casesOn with
   | none=>rw [hc] at h;exact bz h
   | some u=>
    rw [hc] at h
    obtain rfl:=Sh hc h
    induction c using PySem.Const.casesOn<;>cases hc<;>first
     | exact eN Nf rfl fun zz zz zz zz zz zz h=>h
     | exact eN Ng rfl fun zz zz zz zz zz zz h=>h
     | exact eN Nb rfl fun zz zz zz zz zz zz h=>h
     | exact eN M9 rfl fun zz zz zz zz zz zz h=>h
 | loc y=>
  exact fj h fun id p h=>az h fun h1 h=>az h fun h2 h=>az h fun h3 h4=>by
   obtain rfl:=eq_of_beq h1;exact eN (Nh (qI h2) (not_true h3) (bne_iff_ne.mp h4)) rfl fun zz zz zz zz zz zz h=>h
 | attr x' m=>
  exact ud h fun o m' p h=>az h fun h1 h=>az h fun h2 h3=>by
   obtain rfl:=eq_of_beq h1;exact eN (Pr G (ih h3).1 h2) rfl fun zz zz zz zz zz zz h=>h
 | call xf xs=>exact xK h fun f as kw p h=>az h fun h0 h=>jB h0 (az h fun h1 h=>az h fun h2 h3=>
   eN (Qt G (ih h2).1 (j0 ih h3).sl (j0 ih h3).stars h1) rfl fun zz zz zz zz zz zz h=>h)
 | meth xo m xs=>
  exact xK h fun f as kw p h=>ud h fun o m' ap h=>az h fun h0 h=>jB h0 (az h fun h1 h=>az h fun h2 h=>az h fun h3 h=>az h fun h4 h=>az h fun h5 h6=>by
   obtain rfl:=eq_of_beq h1;exact eN (Qu G (ih h5).1 (j0 ih h6).sl (j0 ih h6).stars h2 (Nat.le_of_ble_eq_true h3) h4) rfl fun zz zz zz zz zz zz h=>h)
 | bin o xa xb=>exact RP h fun a op b p h=>az h fun h1 h=>az h fun h2 h3=>eN (Od (ih h2).1 (ih h3).1 (eq_of_beq h1)) rfl fun zz zz zz zz zz zz h=>h
 | not x'=>exact FN h fun op a p h=>az h fun h1 h2=>by obtain rfl:=eq_of_beq h1;exact ⟨Oe (ih h2).1,Oq (ih h2).2⟩
 | neg x'=>exact FN h fun op a p h=>az h fun h1 h2=>by obtain rfl:=eq_of_beq h1;exact eN (Og (ih h2).1) rfl fun zz zz zz zz zz zz h=>h
 | bop b xs=>exact RQ h fun op es p h=>az h fun h1 h2=>by obtain rfl:=eq_of_beq h1;exact ⟨Ov (j0 ih h2).sb,Ou (j0 ih h2).cs⟩
 | cmp xa c xb=>
  exact FP h fun a ops bs p h=>jA h fun op h=>jA h fun b h=>az h fun h1 h=>az h fun h2 h=>az h fun h3 h4=>by
   obtain rfl:=eq_of_beq h1;exact ⟨Oh (ih h3).1 (ih h4).1 h2,Oi (ih h3).1 (ih h4).1 h2⟩
 | cmp2 xa c xb c' xc=>
  refine FP h fun a ops bs p h=> ?_
  induction ops using List.casesOn with
  | nil=>exact bz h
  | cons op ops=>
   refine jA h fun op' h=> ?_
   induction bs using List.casesOn with
   | nil=>exact bz h
   | cons b bs=>
    refine jA h fun d h=>az h fun h1 h=>az h fun h2 h=>az h fun h3 h=>az h fun h4 h=>az h fun h5 h6=> ?_
    obtain rfl:=eq_of_beq h1;obtain rfl:=eq_of_beq h2
    exact ⟨Ol,Oj (ih h4).1 (ih h5).1 (ih h6).1 h3⟩
 | ite xc xa xb=>exact RT h fun c a b p h=>az h fun h1 h=>az h fun h2 h3=>⟨Om (ih h1).2 (ih h2).1 (ih h3).1,Oo (ih h1).2 (ih h2).2 (ih h3).2⟩
 | list xs=>exact RV h fun es p h=>eN (OJ (j0 ih h).sl) rfl fun zz zz zz zz zz zz h=>h
 | tup xs=>exact ue h fun es j p h=>eN (Pa (j0 ih h).sl) rfl fun zz zz zz zz zz zz h=>h
 | dict ks vs=>exact RW h fun ks' es p h=>az h fun h1 h2=>eN (PB G (R8 h1) (by rw [hg];exact R9 h2)) rfl fun zz zz zz zz zz zz h=>h
 | sub xa xi=>exact qH h fun a i p h=>az h fun h1 h=>az h fun h2 h3=>eN (Pb G.lst (ih h2).1 (ih h3).1 h1) rfl fun zz zz zz zz zz zz h=>h
 | slice xa xl xh=>
  exact qH h fun a i p h=>RX h fun lo hi st p' h=>az h fun h1 h=>az h fun h2 h=>az h fun h3 h4=>by
   obtain rfl:=Option.isNone_iff_eq_none.mp h1;exact eN (Pq (ih h2).1 (Gb ih h3) (Gb ih h4)) rfl fun zz zz zz zz zz zz h=>h
 | comp xe y rng xi xs=>
  obtain ⟨elt,xp,it,ifs,scope,pos,rfl,c⟩:=Gf G hg ih h
  exact eN (Q3 c.i c.ifs c.elt c.sc.1 c.sc.2.1 c.sc.2.2.1 c.sc.2.2.2.1 c.sc.2.2.2.2 c.ns) rfl fun zz zz zz zz zz zz h=>h
end
theorem Gg{g:dK}(G:Gd prog w YC K T)(hg:T.glob=jR g):∀(n:Nat) {sc:SC} {e:Expr} {x:X},wC g n sc e x=true→qJ prog w YC T sc e x
 | 0,_,_,_,h=>nomatch h
 | n+1,_,_,_,h=>Ss G hg (fun {_ _ _} h=>Gg G hg n h) h
section
variable{g:dK}{rec:ju}{recB:wD}{sc:SC}(G:Gd prog w YC K T)(hg:T.glob=jR g)(ih:∀{sc e x},rec sc e x=true→qJ prog w YC T sc e x)(ihB:∀{ss xs},recB ss xs=true→gQ prog w YC T sc ss xs)
include G ih
theorem Gh{e:Expr}{t:Tgt}(h:sW rec sc e t=true):ST prog w YC T sc e t:=by
 induction t using Tgt.casesOn with
 | name x=>exact fj h fun id p h=>az h fun h1 h2=>by obtain rfl:=eq_of_beq h1;exact QJ (qI h2)
 | attr xo m=>exact ud h fun o m' p h=>az h fun h1 h2=>by obtain rfl:=eq_of_beq h1;exact QK G (ih h2).1
 | sub xo xi=>exact qH h fun o i p h=>az h fun h1 h2=>QM (ih h1).1 (ih h2).1
 | names xs=>exact ue h fun es j p h=>QT (Sd h)
include hg
theorem Su{tt:Tgt}{xe:X}{t e:Expr}{p:Pos}(h:(gA (pX sc t e) fun o=>match o with
  | none=>sU e && (fQ t && match nU sc e t with
   | true=>match tt with
    | .name y=>match xe with
     | .comp xe' x rng xi xs=>dJ t fun id=>id==nm y && (ik sc y && qb g rec sc e xe' x rng xi xs)
     | _=>false
    | _=>false
   | false=>sW rec sc t tt && rec sc e xe)
  | some ns=>match tt with
   | .names xs=>lr t fun zz=>lr e fun zz=>nY ns xs && (mz xs && (xs.all (ik sc) && rec sc e xe))
   | _=>false)=true):SS prog w YC T sc (.Assign [t] e p) (.assign tt xe):=by
 induction hsw:pX sc t e using Option.casesOn with
 | none=>rw [hsw] at h;exact bz h
 | some o=>
  rw [hsw] at h
  induction o using Option.casesOn with
  | none=>
   refine az h fun h1 h=>az h fun h2 h=> ?_
   induction hb:nU sc e t using Bool.casesOn with
   | false=>
    rw [hb] at h
    exact az h fun h3 h4=>Q9 (Gh G ih h3) (ih h4).1 h1 hb hsw h2
   | true=>
    rw [hb] at h
    induction tt using Tgt.casesOn with
    | name y=>
     induction xe using X.casesOn with
     | comp xe' x rng xi xs=>
      obtain ⟨id,yp,rfl,h⟩:∃id yp,t= .Name id yp∧(id==nm y && (ik sc y && qb g rec sc e xe' x rng xi xs))=true:=fj h fun id p h=>⟨id,p,rfl,h⟩
      refine az h fun h3 h=>az h fun h4 h5=> ?_
      obtain rfl:=eq_of_beq h3
      obtain ⟨elt,xp,it,ifs,scope,pos,rfl,c⟩:=Gf G hg ih h5
      exact Rb c.i c.ifs c.elt c.sc.1 c.sc.2.1 c.sc.2.2.1 c.sc.2.2.2.1 c.sc.2.2.2.2 c.ns (oR h4) hb
     | _=>exact bz h
    | _=>exact bz h
  | some ns=>
   induction tt using Tgt.casesOn with
   | names xs=>
    obtain ⟨ts,j,p1,rfl,h⟩:∃ts j p1,t= .Tuple ts j p1∧(lr e fun zz=>nY ns xs && (mz xs && (xs.all (ik sc) && rec sc e xe)))=true:=ue h fun es j p h=>⟨es,j,p,rfl,h⟩
    obtain ⟨vs,j2,p2,rfl,h⟩:∃vs j2 p2,e= .Tuple vs j2 p2∧(nY ns xs && (mz xs && (xs.all (ik sc) && rec sc e xe)))=true:=ue h (motive:=fun e'=>e'=e→∃vs j2 p2,e= .Tuple vs j2 p2∧_) (fun es j p h he=>⟨es,j,p,he.symm,h⟩) rfl
    refine az h fun h1 h=>az h fun h2 h=>az h fun h3 h4=> ?_
    obtain rfl:=Ga h1
    exact Ra (ih h4).1 hsw (xN h2) fun y hy=>oR (List.all_eq_true.mp h3 y hy)
   | _=>exact bz h
include ihB
theorem Sv{st:Stmt}{x:St}(h:Ar g rec recB sc st x=true):SS prog w YC T sc st x:=by
 induction x using St.casesOn with
 | expr xe=>exact R0 h fun e p h=>az h fun h1 h2=>Q7 (ih h2).1 h1
 | assign tt xe=>exact FQ h fun ts e p h=>jA h fun t h=>Su G hg ih h
 | augName y op xe=>
  exact FT h fun t o e p h=>fj h fun id p' h=>az h fun h1 h=>az h fun h2 h=>az h fun h3 h=>az h fun h4 h5=>by
   obtain rfl:=eq_of_beq h1;exact Rc (qI h2) (bne_iff_ne.mp h3) (ih h5).1 (eq_of_beq h4)
 | augAttr xb m op xe=>
  exact FT h fun t o e p h=>ud h fun b m' p' h=>az h fun h1 h=>az h fun h2 h=>az h fun h3 h4=>by
   obtain rfl:=eq_of_beq h1;exact Rd G (ih h3).1 (ih h4).1 (eq_of_beq h2)
 | ret xe=>
  refine R1 h fun e p h=> ?_
  induction e using Option.casesOn with
  | some e=>exact Rf (ih h).1
  | none=>induction xe using X.casesOn with
   | k v=>obtain rfl:=mH h;exact Rg
   | _=>exact bz h
 | cond xc xa xb=>exact R4 h fun c a b p h=>az h fun h1 h=>az h fun h2 h3=>Ri (ih h1).2 (ihB h2) (ihB h3)
 | loop xc xb=>exact R5 h fun c a b p h=>az h fun h0 h=>jB h0 (az h fun h1 h2=>Rm (ih h1).2 (ihB h2))
 | each tt rng xi xb=>exact FW h fun t it a b p h=>az h fun h0 h=>jB h0 (az h fun h1 h=>az h fun h2 h=>az h fun h3 h4=>Ro (Ge G hg ih h2) (Gh G ih h3) (ihB h4) h1)
 | cont=>exact R6 h fun p zz=>Rh
 | copyAll x a b=>
  refine FW h fun t it bd els p h=>fj h fun ix p1 h=>fj h fun ib p2 h=>jA h fun s h=>FQ h fun ts v p3 h=>jA h fun tt h=>qH h fun a1 i1 p4 h=>fj h fun ia p5 h=>fj h fun ix2 p6 h=>qH h fun b2 i2 p7 h=>fj h fun ib2 p8 h=>fj h fun ix3 p9 h=> ?_
  refine az h fun h0 h=>jB h0 (az h fun e1 h=>az h fun e2 h=>az h fun e3 h=>az h fun e4 h=>az h fun e5 h=>az h fun e6 h=>az h fun a1 h=>az h fun a2 h=>az h fun a3 h=>az h fun z1 h=>az h fun z2 h=>az h fun z3 h=>az h fun d1 h=>az h fun d2 d3=> ?_)
  obtain rfl:=eq_of_beq e1;obtain rfl:=eq_of_beq e2;obtain rfl:=eq_of_beq e3;obtain rfl:=eq_of_beq e4;obtain rfl:=eq_of_beq e5;obtain rfl:=eq_of_beq e6
  exact RN (oR a1) (oR a2) (oR a3) (bne_iff_ne.mp z1) (bne_iff_ne.mp z2) (bne_iff_ne.mp z3) (xO d1) (xO d2) (xO d3)
 | raise xe=>exact R7 h fun e c p h=>xJ h fun e h=>az h fun h1 h2=>by obtain rfl:=Option.isNone_iff_eq_none.mp h1;exact Ru G (ih h2).1
 | tryExc xb cls name xh=>
  refine FZ h fun bd hs els fin p h=>az h fun h0 h=>jB h0 (az h fun h1 h=>jB h1 (jA h fun hh h=> ?_))
  obtain ⟨ty,i,hb,hp⟩:=hh
  refine xJ h fun e h=>fj h fun id xp h=>az h fun h2 h=>az h fun h3 h=>az h fun h4 h=>az h fun h5 h6=> ?_
  obtain ⟨y,rfl,b1,b2,b3⟩:=xM h2
  refine az h4 fun c1 c2=> ?_
  obtain rfl:=eq_of_beq c1
  refine Rv G (ihB h5) (ihB h6) (fun z=>by rw [z] at h3;exact bz h3) (xj G b1 b2 (by rw [hg];exact b3)) fun n e=> ?_
  subst e
  exact az c2 fun c3 c4=>⟨oR c3,bne_iff_ne.mp c4⟩
 | tryFin xb xf=>exact FZ h fun bd hs els fin p h=>az h fun h0 h=>jB h0 (az h fun h1 h=>jB h1 (az h fun h2 h=>az h fun h3 h4=>Rw (ihB h3) (ihB h4) fun z=>by rw [z] at h2;exact bz h2))
end
theorem Gi{g:dK}(G:Gd prog w YC K T)(hg:T.glob=jR g):∀(n:Nat) {sc:SC} {ss:List Stmt} {xs:List St},sY g n sc ss xs=true→gQ prog w YC T sc ss xs
 | 0,_,_,_,h=>nomatch h
 | n+1,_,_,_,h=>jZ Rj (fun zz zz zz zz h r=>Rk (Sv G hg (fun {_ _ _} h=>Gg G hg 60 h) (fun {_ _} h=>Gi G hg n h) h) r) h
end
mutual
inductive DV(K:Frag):V→Value→Prop
 | none:DV K .none .none
 | bool (b):DV K (.bool b) (.bool b)
 | int (i t):DV K (.int i) (.int i t)
 | str (s t):DV K (.str s) (.str (aJ s) t)
 | tup {xs a vs n}:K.lookup a=some {cls:= .type "tuple",dict:=none,data:= .seq vs n,slots:=#[]}→j4 K xs vs.toList→DV K (.tup xs) (.ref a)
inductive j4(K:Frag):List V→List Value→Prop
 | nil:j4 K [] []
 | cons {x v xs vs}:DV K x v→j4 K xs vs→j4 K (x::xs) (v::vs)
end
section
variable{K:Frag}{own:ak}{h:Heap}
theorem DV.vr(k:∀a o,K.lookup a=some o→h.get? a=some o∧own a=Option.none){x:V}{v:Value}(r:DV K x v):VR own h x v:=
 DV.rec (motive_1:=fun x v zz=>VR own h x v) (motive_2:=fun xs vs zz=>aB own h xs vs) .none .bool .int .str (fun e zz r=> .tup (k _ _ e).2 (k _ _ e).1 r) .nil (fun zz zz=> .cons) r
theorem j4.vr(k:∀a o,K.lookup a=some o→h.get? a=some o∧own a=none){xs:List V}{vs:List Value}(r:j4 K xs vs):aB own h xs vs:=
 j4.rec (motive_1:=fun x v zz=>VR own h x v) (motive_2:=fun xs vs zz=>aB own h xs vs) .none .bool .int .str (fun e zz r=> .tup (k _ _ e).2 (k _ _ e).1 r) .nil (fun zz zz=> .cons) r
end
inductive uf(K:Frag)(T:Tab)(a:Addr)(fn:Fn):Prop
 | ex {oc:_} {od:_} {osl:_} {fd:FuncData} {body:List Stmt} {dv:List Value} {g:_} {n:Nat} (f1:K.lookup a=some ⟨oc,od, .func fd,osl⟩) (f2:fd.scope.isCoroutine=false) (f3:fd.scope.isGenerator=false) (f4:fd.scope.kind= .function) (f5:fd.globals=mainGlobals) (f6:fd.builtins=builtinsNs) (f7:fd.closure= [])
  (f8:fd.body= .stmts body) (f9:codeIn K fd.code fd.qualname=true) (f10:fd.params.posonlyargs= []) (f11:fd.params.kwonlyargs= []) (f12:fd.params.vararg=none) (f13:fd.params.kwarg=none) (f14:fd.params.args.map (·.arg)=fn.params.map nm) (f15:fn.params.Nodup)
  (f16:∀x∈fn.params,lC fd.scope.names x) (f17g:T.glob=jR g) (f17:sY g n fd.scope.names body fn.body=true) (f18:j4 K fn.dflt dv) (f19:fn.dflt.length≤fn.params.length)
  (f20:(fd.defaults= .none∧dv= [])∨∃t o n,fd.defaults= .ref t∧K.lookup t=some o∧o.data= .seq dv.toArray n)
theorem Sw{M:Model}{A:Around}{E:Value→Shared→Prop}{s:Shared}{Q:Option (Array Value)→Shared→Prop}(h:Q none s):wpAny M A (seqItems? .none) Q E s:=wpAny_pure h
section
variable(prog:Program)(w:World)(YC:Heap)(T:Tab)
noncomputable def ug(C:aO)(d:Nat):Prop:=∀(hd:Option Nat) (a:Nat) (args:List V) (H:MH) (Q:Q1) (E:E1),(T.fn a).isSome=true→C hd (.con (.ref a)) args H Q E→
 ∀(A:Around) (fr:List Env) (own:ak) (s:Shared) (YG:List Value) (R:Result→Shared→Prop),bF prog w YC T fr hd d A own H s.heap→aB own s.heap args YG→
 KQ prog w YC T VR own H s Q (fun v s'=>R (.ok (.ret v)) s')→KE prog w YC T own H s E (fun e s'=>R (.error e) s')→codeAny (model prog w) A (.call (.ref a) ⟨YG,[]⟩) R s
end
section
variable{prog:Program}{w:World}{YC:Heap}{K:Frag}{T:Tab}
theorem aB.take_drop{own:ak}{h:Heap}{xs ys:List V}{vs ws:List Value}(a:aB own h xs vs)(b:aB own h ys ws)(n:Nat):aB own h (xs++ys.drop n) (vs++ws.drop n):=a.append (b.drop n)
theorem uh{α β:Type}{f:α→β}{l:List α}:(l.map f).length=l.length:=List.length_map f
theorem Sx{ps:List String}(h:ps.Nodup):(ps.map nm).Nodup:=List.Pairwise.map _ (fun x y h z=>h (lu z)) h
theorem Gj{ps:List String}{df vs:List V}{l:Loc}(h:jr ps df vs=some l):vs.length≤ps.length∧ps.length≤vs.length+df.length∧l=ps.zip (vs++df.drop (df.length+vs.length - ps.length)):=by
 unfold jr at h
 split at h
 ·rename_i q
  obtain rfl:=Option.some.inj h
  exact ⟨q.1,q.2,rfl⟩
 ·exact aG h
theorem Gk{N d:Nat}{hd:Option Nat}{a:Nat}{fn:Fn}{vs:List V}{H:MH}{Q:Q1}{E:E1}(hT:T.fn a=some fn)(h:au T N (d+1) hd (.con (.ref a)) vs H Q E):aa (jr fn.params fn.dflt vs) fun loc=>b8 T (au T N d) N hd fn.body loc H (nR Q) (iU E):=by
 have h:match T.fn a with
  | some fn=>aa (jr fn.params fn.dflt vs) fun loc=>b8 T (au T N d) N hd fn.body loc H (nR Q) (iU E)
  | .none=>aa (T.cls a) fun c=>∀x,H x= .none→au T N d hd (.con (.ref c.init)) (.ref x::vs) (H.upd x (iV c.isExc a)) (lZ x Q) E:=h
 rw [hT] at h;exact h
theorem Sy{N d:Nat}{hd:Option Nat}{a:Nat}{vs:List V}{H:MH}{Q:Q1}{E:E1}(hT:T.fn a=none)(h:au T N (d+1) hd (.con (.ref a)) vs H Q E):aa (T.cls a) fun c=>∀x,H x= .none→au T N d hd (.con (.ref c.init)) (.ref x::vs) (H.upd x (iV c.isExc a)) (lZ x Q) E:=by
 have h:match T.fn a with
  | some fn=>aa (jr fn.params fn.dflt vs) fun loc=>b8 T (au T N d) N hd fn.body loc H (nR Q) (iU E)
  | .none=>aa (T.cls a) fun c=>∀x,H x= .none→au T N d hd (.con (.ref c.init)) (.ref x::vs) (H.upd x (iV c.isExc a)) (lZ x Q) E:=h
 rw [hT] at h;exact h
theorem SJ(G:Gd prog w YC K T)(hfn:∀a fn,T.fn a=some fn→uf K T a fn){N d:Nat}(hC:eZ prog w YC T (au T N d) d):ug prog w YC T (au T N (d+1)) (d+1):=by
 intro hd a args H Q E hsome hw A fr own s YG R I rv kq ke
 have ⟨fn,hT⟩:=Option.isSome_iff_exists.mp hsome
 clear hsome
 refine aa.el (Gk hT hw) fun loc hbind hw=> ?_
 have ⟨hl1,hl2,hl⟩:=Gj hbind
 subst hl
 clear hbind
 induction hfn a fn hT using uf.casesOn with | @ex oc od osl fd body dv g nn f1 f2 f3 f4 f5 f6 f7 f8 f9 f10 f11 f12 f13 f14 f15 f16 f17g f17 f18 f19 f20=> ?_
 have X:K.In s.heap:=G.X.keeps I.ok.base
 have rdv:=f18.vr fun b o e=>⟨X b o e,I.ok.old b o (G.X b o e)⟩
 have ldv:=rdv.length
 have lv:=rv.length
 refine codeAny_call_function (fd:=fd) (body:=body) (Nat.lt_of_le_of_lt (Nat.le_trans (Nat.le_add_right _ _) (Nat.le_add_right _ _)) I.ao.depth) (X _ _ f1) rfl f2 f3 f8 (codeRec_of X f9) ?_
 have hseq:∀(Q2:Option (Array Value)→Shared→Prop),(∀r,r.getD #[]=dv.toArray→Q2 r s)→wpAny (model prog w) A.in1 (seqItems? fd.defaults) Q2 (fun e s'=>R (.error e) s') s:=fun Q2 k=>by
  rcases f20 with ⟨z1,z2⟩ | ⟨t,o,n,z1,z2,z3⟩
  ·rw [z1];exact Sw (k none (by rw [z2];rfl))
  ·rw [z1];exact wpAny_seqItems (X _ _ z2) z3 (k _ rfl)
 refine RD f10 f11 f12 f13 f14 (Sx f15) (by rw [uh,←lv];exact hl1) (by rw [uh,←lv,←ldv];exact hl2) (by rw [uh,←ldv];exact f19) hseq ?_
 rw [f5,f7,f6,uh,←ldv,←lv]
 clear hseq f20 ldv lv f5 f6 f7 f8 f9 f10 f11 f12 f13 f14 f1 f2 f3
 have rall:=rv.take_drop rdv (fn.dflt.length+args.length - fn.params.length)
 refine RG rfl f4 I.ok rall f16 f15 (by rw [List.length_append,List.length_drop];exact (Fv hl1 hl2).symm) fun env YF h1 tk1 hfr he O1 X1 F1 inF=> ?_
 refine ⟨G.lim.keeps O1.base,codeAny_func ?_⟩
 have ff1:FF YC YF h1 (env::fr):=fun env' hm=>by
  rcases List.mem_cons.mp hm with rfl | hm
  ·obtain ⟨m,n1,_⟩:=F1.ns
   exact ⟨he.kind,env'.locals,m,hfr,F1.ownL,F1.oldL,n1.ns⟩
  ·exact (I.ff.keep X1) env' hm
 have I1:bF prog w YC T (env::fr) hd d (A.deeper env) YF H h1:=
  ⟨⟨Around.frames_deeper I.ao.frames,I.ao.handled,tR I.ao.depth (Nat.add_le_add_left (by decide) _),tR I.ao.units (Nat.add_le_add_left (by decide) _)⟩,ff1,I.hk.keep X1.exc,O1⟩
 refine Gi G f17g _ f17 env (au T N d) d N hd (env::fr) _ H _ _ he hC ⟨fr,rfl⟩ hw (A.deeper env) YF (aF s h1 tk1) _ _ I1 F1 (fun fl loc2 H2 own2 h2 tk2 flow hq O2 X2 F2 r2=> ?_) fun b loc2 H2 own2 h2 tk2 hE isb O2 X2 F2=> ?_
 ·cases r2 with
  | next=>exact kq _ _ _ _ tk2 _ hq O2 (X1.trans_new X2 inF) .none
  | cont=>exact hq.elim
  | ret r=>exact kq _ _ _ _ tk2 _ hq O2 (X1.trans_new X2 inF) r
 ·have I2:=I1.stepF O2 X2 F1 F2
  show wpAny _ _ (leaving env (.ref b)) _ _ _
  unfold leaving
  refine wpAny_bind (oO (s:=(aF s h2 tk2)) (outer:=fr) I2.ao.frames I2.ff hfr O2 isb fun own3 h3 O3 X3 tb3=> ?_)
  refine lE (s:=(aF s h3 tk2)) O3 isb none fun h4 O4 X4 zz=> ?_
  exact ke b H2 own3 h4 tk2 hE isb O4 (((X1.trans_new X2 inF).trans X3).trans X4)
end
structure oU(K:Frag)(T:Tab)(a:Addr)(c:Cls):Prop where
 plain:c.isExc=false→makesIn K a=true
 init:findIn K (.ref a) "__init__"=some (some (.ref c.init))
 fn:typeIn K (.ref c.init)=some (.type "function")
 tab:(T.fn c.init).isSome=true
 notStr:isNotIn K "str" a=true
section
variable{prog:Program}{w:World}{YC:Heap}{K:Frag}{T:Tab}
theorem SM{A:Around}{args:Args}:(A.under (.builtin "type.__call__" args)).frames=A.frames∧(A.under (.builtin "type.__call__" args)).handled=A.handled∧(A.under (.builtin "type.__call__" args)).depth≤A.depth+1∧(A.under (.builtin "type.__call__" args)).units≤A.units+1:=by
 have e1:(Code.builtin "type.__call__" args).frames=0:=by
  unfold Code.frames
  rfl
 have e2:(Code.builtin "type.__call__" args).envs= []:=by
  unfold Code.envs
  rfl
 have e3:(Code.builtin "type.__call__" args).isGuard=false:=by show guardIds.contains "type.__call__"=false;decide
 have e4:(Code.builtin "type.__call__" args).isCaller=false:=by rfl
 refine ⟨?_,rfl, ?_, ?_⟩
 ·show pushEnvs (Code.builtin "type.__call__" args).envs A.frames=A.frames
  rw [e2];rfl
 ·show A.depth+(Code.builtin "type.__call__" args).weight≤_
  unfold Code.weight
  rw [e1,e3,e4]
  split<;>simp
 ·show A.units+(Code.builtin "type.__call__" args).cUnits≤_
  show A.units+(1+3*(Code.builtin "type.__call__" args).frames)≤_
  rw [e1];exact Nat.le_refl _
theorem bF.tc{fr:List Env}{hd:Option Nat}{d:Nat}{A:Around}{own:ak}{H:MH}{h:Heap}{args:Args}(I:bF prog w YC T fr hd (d+1) A own H h):bF prog w YC T fr hd d (A.under (.builtin "type.__call__" args)) own H h:=by
 obtain ⟨u1,u2,u3,u4⟩:=SM (A:=A) (args:=args)
 exact ⟨⟨u1.trans I.ao.frames,u2.trans I.ao.handled,tR I.ao.depth (Nat.le_trans u3 (Nat.add_le_add_left (by decide) _)),tR I.ao.units (Nat.le_trans u4 (Nat.add_le_add_left (by decide) _))⟩,I.ff,I.hk,I.ok⟩
theorem SN(G:Gd prog w YC K T){N d:Nat}(hC:ug prog w YC T (au T N d) d){C:Nat}{c:Cls}(hT:T.cls C=some c)(m:oU K T C c)(hx:c.isExc=false){hd:Option Nat}{args:List V}{H:MH}{Q:Q1}{E:E1}
  (hw:∀x,H x= .none→au T N d hd (.con (.ref c.init)) (.ref x::args) (H.upd x (.inst C [])) (lZ x Q) E)
  {A:Around} {fr:List Env} {own:ak} {s:Shared} {YG:List Value} {Q':Value→Shared→Prop} {E':Value→Shared→Prop} (I:bF prog w YC T fr hd (d+1) A own H s.heap) (rv:aB own s.heap args YG)
  (kq:KQ prog w YC T VR own H s Q Q') (ke:KE prog w YC T own H s E E'):wpAny (model prog w) A (call (.ref C) YG []) Q' E' s:=by
 have X:K.In s.heap:=G.X.keeps I.ok.base
 obtain ⟨hp,g,dr,t,os⟩:=s
 refine wpAny_call (make_core (makes_of X (m.plain hx)) (looks_findIn X m.init) (fun self=>bind_fn X self m.fn) (.inl rfl) ?_)
 obtain ⟨O1,X1⟩:=I.ok.push emptyDict (some (hp.objs.size+1))
 have hsz:(hp.push emptyDict).objs.size=hp.objs.size+1:=Heap.size_push ..
 obtain ⟨O2,X2⟩:=O1.push (instObj C hp.objs.size) (some (hp.objs.size+1))
 rw [hsz] at O2 X2
 have gx:((hp.push emptyDict).push (instObj C hp.objs.size)).get? (hp.objs.size+1)=some (instObj C hp.objs.size):=by rw [←hsz];exact Heap.get?_push_size _ rfl
 have gd:((hp.push emptyDict).push (instObj C hp.objs.size)).get? hp.objs.size=some emptyDict:=Heap.get?_push_of_some _ (Heap.get?_push_size _ rfl)
 have hox:(ak.set (ak.set own hp.objs.size (some (hp.objs.size+1))) (hp.objs.size+1) (some (hp.objs.size+1))) (hp.objs.size+1)=some (hp.objs.size+1):=by unfold ak.set;rw [if_pos rfl]
 have hod:(ak.set (ak.set own hp.objs.size (some (hp.objs.size+1))) (hp.objs.size+1) (some (hp.objs.size+1))) hp.objs.size=some (hp.objs.size+1):=by
  unfold ak.set;rw [if_neg (by exact Nat.ne_of_lt (Nat.lt_succ_self _)),if_pos rfl]
 have hH:H (hp.objs.size+1)=none:=by
  induction e:H (hp.objs.size+1) using Option.casesOn with
  | none=>rfl
  | some o=>
   obtain ⟨ox,q⟩:=(I.ok.rep _ _ e).2.there
   exact absurd (Heap.lt_size q) (Nat.not_lt.mpr (Nat.le_succ _))
 have O3:=O2.add (z:=hp.objs.size+1) (o:= .inst C []) hox (.inst gx rfl rfl rfl hod (Nat.ne_of_lt (Nat.lt_succ_self _)) (Heap.Ns1.of_empty ⟨_,#[],0,gd,rfl,fun zz he=>by simp at he,fun zz=>rfl⟩) FM.nil (fun zz zz q=>nomatch q) (by rw [hT];simp [hx]))
 have X02:=X1.trans X2
 have X3:aH aV own H hp (ak.set (ak.set own hp.objs.size (some (hp.objs.size+1))) (hp.objs.size+1) (some (hp.objs.size+1))) (H.upd (hp.objs.size+1) (.inst C [])) ((hp.push emptyDict).push (instObj C hp.objs.size)):=
  ⟨X02.same,X02.keep,X02.tups,X02.there,qm hH,X02.tb⟩
 have I3:=(I.step O3 X3).tc (args:=⟨.ref C::YG,[]⟩)
 refine hC hd c.init _ _ _ E m.tab (hw _ hH) _ fr _ ⟨_,g,dr,t,os⟩ (.ref (hp.objs.size+1)::YG) _ I3 (.cons (.ref _) (rv.keep X3.tup)) (fun v H' YD h' tk val hq O' X' r'=> ?_) fun a H' YD h' tk hE isx O' X'=> ?_
 ·obtain ⟨rfl,hq⟩:=hq
  obtain rfl:=r'.e_none
  exact ⟨rfl,kq _ _ _ _ tk _ hq O' (X3.trans X') (.ref _)⟩
 ·exact ke a H' YD h' tk hE isx O' (X3.trans X')
theorem SQ(G:Gd prog w YC K T){N d:Nat}(hC:ug prog w YC T (au T N d) d){C:Nat}{c:Cls}(hT:T.cls C=some c)(m:oU K T C c)(hx:c.isExc=true){hd:Option Nat}{args:List V}{H:MH}{Q:Q1}{E:E1}
  (hw:∀x,H x= .none→au T N d hd (.con (.ref c.init)) (.ref x::args) (H.upd x (.exc C [])) (lZ x Q) E)
  {A:Around} {fr:List Env} {own:ak} {s:Shared} {YG:List Value} {Q':Value→Shared→Prop} {E':Value→Shared→Prop} (I:bF prog w YC T fr hd (d+1) A own H s.heap) (rv:aB own s.heap args YG) (hsmall:args.length≤bh)
  (kq:KQ prog w YC T VR own H s Q Q') (ke:KE prog w YC T own H s E E'):wpAny (model prog w) A (call (.ref C) YG []) Q' E' s:=by
 have X:K.In s.heap:=G.X.keeps I.ok.base
 obtain ⟨nm',q,Na,bs,hdct,sn,sub,ab,col,dd,k0,k1,k2,k3,k5,hCK⟩:=(G.cls _ _ hT).excO hx
 have EF:=PySem.F.excBase_Exception
 obtain ⟨h,g,dr,t,os⟩:=s
 have hC0:h.get? C=some _:=X _ _ hCK
 have f1:=tc_lookup
 have f2:=tc_bind (.ref C)
 have hT':(⟨h,g,dr,t,os⟩:Shared).TypeIs (.ref C) "type":=⟨_,hC0,rfl⟩
 have hlen:=rv.length
 have hrest:YG.length≤sizeLine:=by rw [←hlen,←gB];exact hsmall
 refine wpAny_call (codeAny_of_tree ?_)
 show wpAny _ _ (callAny (.ref C) _) _ _ _
 repeat (any_goals (first | assumption | with_reducible refine wpAny_loadPart_at hC0 ?_ | wp_step))
 refine ⟨rfl, ?_⟩
 refine codeAny_call_builtin_at (Code.quiet_builtin _ (by decide+kernel)) entry_typeCall (wpAny_check_type_call_sub hC0 ?_)
 repeat (first | with_reducible refine wpAny_loadPart_at hC0 ?_ | with_reducible refine wpAny_madeBy_exc hC0 ?_ | wp_step)
 refine codeAny_call_builtin_code (Code.quiet_builtin _ EF.quiet) (wpAny_check_new_sub EF hC0 ?_)
 refine codeAny_exc_new_sub EF hC0 ?_ hrest
 show wpAny _ _ _ _ _ ⟨(h.push {cls:= .type "tuple",data:= .seq YG.toArray}).push {cls:= .ref C,data:= .fields #[.ref h.objs.size, .none, .none, .none, .bool false, .none]},g,dr,t,os⟩
 have hC₁:=Heap.get?_push_of_some {cls:= .ref C,data:= .fields #[.ref h.objs.size, .none, .none, .none, .bool false, .none]}
  (Heap.get?_push_of_some {cls:= .type "tuple",data:= .seq YG.toArray} hC0)
 have hget:((h.push {cls:= .type "tuple",data:= .seq YG.toArray}).push
   {cls:= .ref C,data:= .fields #[.ref h.objs.size, .none, .none, .none, .bool false, .none]}).get? (h.objs.size+1)=some
   {cls:= .ref C,data:= .fields #[.ref h.objs.size, .none, .none, .none, .bool false, .none]}:=by heap_get
 have hcC:(Value.ref C:: [Value.type "Exception",Value.type "BaseException",Value.type "object"]).contains (.ref C)=true:=by simp
 have X₁:K.In ((h.push {cls:= .type "tuple",data:= .seq YG.toArray}).push {cls:= .ref C,data:= .fields #[.ref h.objs.size, .none, .none, .none, .bool false, .none]}):=X.keeps fun b o e=>Heap.get?_push_of_some _ (Heap.get?_push_of_some _ e)
 unfold isInstance
 repeat (first | with_reducible refine wpAny_loadPart_at hget ?_ | (with_reducible refine wpAny_isSubtype_exc hC₁ ?_;rw [hcC]) | wp_step)
 show wpAny _ _ (typeLookup (.ref C) _) _ _ _
 refine Looks.here (s:=⟨_,g,dr,t,os⟩) (looks_findIn X₁ m.init) ?_
 refine wpAny_holding (wpAny_bind (Looks.here (s:=⟨_,g,dr,t,os⟩) (bind_fn X₁ (.ref (h.objs.size+1)) m.fn) ?_))
 obtain ⟨O1,X1⟩:=I.ok.push {cls:= .type "tuple",data:= .seq YG.toArray} none
 have hsz:(h.push {cls:= .type "tuple",data:= .seq YG.toArray}).objs.size=h.objs.size+1:=Heap.size_push ..
 obtain ⟨O2,X2⟩:=O1.push {cls:= .ref C,data:= .fields #[.ref h.objs.size, .none, .none, .none, .bool false, .none]} (some (h.objs.size+1))
 rw [hsz] at O2 X2
 have hox:(ak.set (ak.set own h.objs.size none) (h.objs.size+1) (some (h.objs.size+1))) (h.objs.size+1)=some (h.objs.size+1):=by unfold ak.set;rw [if_pos rfl]
 have hH:H (h.objs.size+1)=none:=by
  induction e:H (h.objs.size+1) using Option.casesOn with
  | none=>rfl
  | some o=>
   obtain ⟨ox,q⟩:=(I.ok.rep _ _ e).2.there
   exact absurd (Heap.lt_size q) (Nat.not_lt.mpr (Nat.le_succ _))
 have O3:=O2.add (z:=h.objs.size+1) (o:= .exc C []) hox (.exc0 hget rfl rfl rfl (by rw [hT];simp [hx]) (by simp) rfl (.inl rfl))
 have X02:=X1.trans X2
 have X3:aH aV own H h (ak.set (ak.set own h.objs.size none) (h.objs.size+1) (some (h.objs.size+1))) (H.upd (h.objs.size+1) (.exc C [])) _:=
  ⟨X02.same,X02.keep,X02.tups,X02.there,qm hH,X02.tb⟩
 have I3:=(I.step O3 X3).tc (args:=⟨.ref C::YG,[]⟩)
 refine wpAny_bind (wpAny_call (hC hd c.init _ _ _ E m.tab (hw _ hH) _ fr _ ⟨_,g,dr,t,os⟩ (.ref (h.objs.size+1)::YG) _ I3 (.cons (.ref _) (rv.keep X3.tup)) (fun v H' YD h' tk val hq O' X' r'=> ?_) fun a H' YD h' tk hE isx O' X'=> ?_))
 ·obtain ⟨rfl,hq⟩:=hq
  obtain rfl:=r'.e_none
  have fin:=kq _ _ _ _ tk _ hq O' (X3.trans X') (.ref (h.objs.size+1))
  exact wpAny_pure (wpAny_pure fin)
 ·exact ke a H' YD h' tk hE isx O' (X3.trans X')
end
section
variable{prog:Program}{w:World}{YC:Heap}{K:Frag}{T:Tab}
theorem SX(G:Gd prog w YC K T){v:V}{H:MH}{Q:Q1}(hw:rW T v H Q){A:Around}{own:ak}{s:Shared}{val:Value}{Q':Value→Shared→Prop}{E':Value→Shared→Prop}
  (O:Ok prog w T YC own H s.heap) (r1:VR own s.heap v val) (kq:KQ prog w YC T VR own H s Q Q'):wpAny (model prog w) A (call (.builtin "len") [val] []) Q' E' s:=by
 have L63:bh=16777216:=rfl
 induction v using V.casesOn with
 | str st=>
  obtain ⟨hl,hq⟩:=hw
  refine VR.k_str r1 fun t=>P.len_str (by rw [jx];omega) ?_
  rw [jx]
  exact kq _ _ _ _ _ _ hq O .refl (.int _ _)
 | tup xs=>
  obtain ⟨hl,hq⟩:=hw
  refine VR.k_tup r1 fun t vs1 n o1 t1 rr=> ?_
  have e1:xs.length=vs1.size:=rr.len.trans Array.length_toList
  refine P.len_tuple t1 (by omega) ?_
  rw [←e1]
  exact kq _ _ _ _ _ _ hq O .refl (.int _ _)
 | ref a=>
  refine aa.el hw fun xs hH h=>VR.k_ref r1 (aU.k_listN (O.rep _ _ (dO hH)).2 fun v1 n1 l1 rr e1=> ?_)
  refine Calls.call_len_list ⟨_,l1,rfl,n1,rfl⟩ (by have:=h.1;omega) ?_
  rw [←e1]
  exact kq _ _ _ _ _ _ h.2 O .refl (.int _ _)
 | con w=>
  refine aa.el hw fun xs hH h=>cg hH fun r hr hl=>VR.k_con r1 fun zz=> ?_
  obtain rfl:=Dh hr
  obtain ⟨v1,⟨o,ho,hcl,n1,hd⟩,rr⟩:=G.lst _ _ hl
  have e1:xs.length=v1.size:=by have:=(rr own s.heap).len;simpa using this
  refine Calls.call_len_list ⟨o,O.base _ _ ho,hcl,n1,hd⟩ (by have:=h.1;omega) ?_
  rw [←e1]
  exact kq _ _ _ _ _ _ h.2 O .refl (.int _ _)
 | _=>exact hw.elim
theorem Gl{t:String}{b:Bool}{H:MH}{Q:Q1}(h:pN t b H Q):(t="str"∧Q (.bool b) H)∨(t="tuple"∧Q (.bool !b) H):=by
 exact br.el h (fun e h=> .inl ⟨eq_of_beq e,h⟩) fun zz h=> .inr h
theorem S5(G:Gd prog w YC K T)(hcls:∀a c,T.cls a=some c→oU K T a c){v:V}{c:Value}{H:MH}{Q:Q1}(hw:rY T v H Q c){A:Around}{own:ak}{s:Shared}{val:Value}{Q':Value→Shared→Prop}{E':Value→Shared→Prop}
  (O:Ok prog w T YC own H s.heap) (r1:VR own s.heap v val) (kq:KQ prog w YC T VR own H s Q Q'):wpAny (model prog w) A (call (.builtin "isinstance") [val,c] []) Q' E' s:=by
 have X:K.In s.heap:=G.X.keeps O.base
 induction c using PySem.Value.casesOn with
 | ref c=>
  induction v using V.casesOn with
  | str st=>
   obtain ⟨hc,hq⟩:=hw
   obtain ⟨k,hk⟩:=Option.isSome_iff_exists.mp hc
   exact VR.k_str r1 fun t=>isn_call (P:=fun zz=>True) X (fun M=>Looks.of_pure rfl) (hcls _ _ hk).notStr (by intro e;injection e) trivial str_cls (kq _ _ _ _ _ _ hq O .refl (.bool _))
  | ref a=>
   refine aa.el hw fun k hk h=> ?_
   obtain ⟨rfl,hq⟩:=h
   obtain ⟨fs,hH⟩:=MK hk
   refine VR.k_ref r1 (aU.k_inst (O.rep _ _ hH).2 fun d m o e1 e2 e3 e4 e5 e6 e7 e8 e9 e10=> ?_)
   refine isi_call (t:= .ref k) X (fun M=> ?_) (by unfold isIn;simp) (by intro e;injection e) (kq _ _ _ _ s.toks _ hq O .refl (.bool _))
   rw [←e2]
   exact (Looks.ld (part:=none) e1).andThen .now
  | _=>exact hw.elim
 | type t=>
  induction v using V.casesOn with
  | str st=>
   refine VR.k_str r1 fun zz=> ?_
   rcases Gl hw with ⟨rfl,hq⟩ | ⟨rfl,hq⟩
   ·exact IsiPair.str_str (kq _ _ _ _ s.toks _ hq O .refl (.bool _))
   ·exact IsiPair.str_tuple (kq _ _ _ _ _ _ hq O .refl (.bool _))
  | tup xs=>
   refine VR.k_tup r1 fun zz zz zz o1 t1 rr=> ?_
   rcases Gl hw with ⟨rfl,hq⟩ | ⟨rfl,hq⟩
   ·exact IsiPair.tuple_str t1 rfl (kq _ _ _ _ _ _ hq O .refl (.bool _))
   ·exact IsiPair.tuple_tuple t1 rfl (kq _ _ _ _ s.toks _ hq O .refl (.bool _))
  | _=>exact hw.elim
 | _=>exact False.elim (by induction v using V.casesOn<;>exact hw)
theorem S6{a b:Int}{hd:Option Nat}{H:MH}{Q:Q1}(hw:Q (.int (max a b)) H){A:Around}(hA:A.handled=hd.map Value.ref)(hhd:hd=none){own:ak}{s:Shared}{va vb:Value}{Q':Value→Shared→Prop}{E':Value→Shared→Prop}
  (O:Ok prog w T YC own H s.heap) (r1:VR own s.heap (.int a) va) (r2:VR own s.heap (.int b) vb) (kq:KQ prog w YC T VR own H s Q Q'):wpAny (model prog w) A (call (.builtin "max") [va,vb] []) Q' E' s:=by
 subst hhd
 refine VR.k_int r1 fun t=>VR.k_int r2 fun u=>max_two_ints hA fun h' tk hk=> ?_
 have O':Ok prog w T YC own H h':=O.grow hk fun zz zz zz=>rfl
 have X':aH aV own H s.heap own H h':= .of_keeps hk fun zz zz zz=>rfl
 by_cases q:b>a
 ·rw [if_pos q]
  rw [Int.max_eq_right (Int.le_of_lt q)] at hw
  exact kq _ _ _ _ _ _ hw O' X' (.int _ _)
 ·rw [if_neg q]
  rw [Int.max_eq_left (Int.not_lt.1 q)] at hw
  exact kq _ _ _ _ _ _ hw O' X' (.int _ _)
theorem S7(G:Gd prog w YC K T)(hcls:∀a c,T.cls a=some c→oU K T a c){id:String}{vs:List V}{hd:Option Nat}{H:MH}{Q:Q1}(hw:nJ T hd id vs H Q){A:Around}(hA:A.handled=hd.map Value.ref){own:ak}{s:Shared}{YG:List Value}{Q':Value→Shared→Prop}{E':Value→Shared→Prop}
  (O:Ok prog w T YC own H s.heap) (rv:aB own s.heap vs YG) (kq:KQ prog w YC T VR own H s Q Q'):wpAny (model prog w) A (call (.builtin id) YG []) Q' E' s:=by
 refine br.el hw (fun hid h=>aa.el h fun v hv h1=> ?_) fun zz h=>aa.el h fun p hv h1=>br.el h1 (fun hid h2=>aa.el h2 fun c hc h3=> ?_) fun zz h2=>aa.el h2.2 fun a ha h3=>aa.el h3 fun b hb h4=> ?_
 ·obtain rfl:=eq_of_beq hid;obtain rfl:=jU hv
  exact aB.k_one rv fun v r1=>SX G h1 O r1 kq
 ·obtain rfl:=eq_of_beq hid;obtain rfl:=tM hv
  refine aB.k_two rv fun v1 v2 r1 r2=> ?_
  rw [MJ hc] at r2
  obtain rfl:=r2.e_con
  exact S5 G hcls h3 O r1 kq
 ·obtain rfl:=h2.1;obtain rfl:=tM hv
  refine aB.k_two rv fun v1 v2 r1 r2=> ?_
  rw [dN ha] at r1
  rw [dN hb] at r2
  exact S6 h4.2 hA h4.1 O r1 r2 kq
theorem S8{t:String}{vs:List V}{H:MH}{Q:Q1}(hw:rZ t vs H Q){A:Around}{own:ak}{s:Shared}{YG:List Value}{Q':Value→Shared→Prop}{E':Value→Shared→Prop}
  (O:Ok prog w T YC own H s.heap) (rv:aB own s.heap vs YG) (kq:KQ prog w YC T VR own H s Q Q'):wpAny (model prog w) A (call (.type t) YG []) Q' E' s:=by
 refine aa.el hw fun v hv h=>br.el h (fun hid h1=>aa.el h1 fun i hi h2=> ?_) fun zz h1=>aa.el h1.2 fun a ha h2=>aa.el h2 fun xs hH h3=> ?_
 ·obtain rfl:=eq_of_beq hid;obtain rfl:=jU hv;obtain rfl:=dN hi
  refine aB.k_one rv fun v1 r1=>VR.k_int r1 fun t=> ?_
  obtain ⟨hl,hq⟩:=h2
  refine P.str_of_int ?_ ?_
  ·have h2:i.natAbs<2 ^ 34:=Nat.lt_of_lt_of_le hl (by decide)
   by_cases h0:i.natAbs=0
   ·rw [h0];decide
   ·exact Nat.lt_trans ((Nat.log2_lt h0).mpr h2) (by decide)
  ·have:Str.ofString (toString i)=aJ (eF i):=wX _
   have r:VR own s.heap (.str (eF i)) (.str (toString i) s.toks):=by
    show VR own s.heap (.str (eF i)) (.str (Str.ofString (toString i)) s.toks)
    rw [this];exact .str _ _
   exact kq _ _ _ _ _ _ hq O .refl r
 ·obtain rfl:=h1.1;obtain rfl:=jU hv;obtain rfl:=dD ha
  refine aB.k_one rv fun v1 r1=>VR.k_ref r1 (aU.k_listN (O.rep _ _ (dO hH)).2 fun v1 n1 l1 rr e1=> ?_)
  refine call_tuple_list ⟨_,l1,rfl,n1,rfl⟩ (fun h' hk=> ?_) (by rw [←e1,←gB];exact h3.1)
  have O1:Ok prog w T YC own H h':=O.grow hk fun zz zz zz=>rfl
  have X1:aH aV own H s.heap own H h':= .of_keeps hk fun zz zz zz=>rfl
  obtain ⟨O2,X2,r2⟩:=O1.newT (xs:=xs) (vs:=v1) (rr.keep X1.tup)
  exact kq _ _ _ _ s.toks _ h3.2 O2 (X1.trans X2) r2
end
structure xP(K:Frag)(T:Tab):Prop where
 fn:∀a f,T.fn a=some f→uf K T a f
 cls:∀a c,T.cls a=some c→oU K T a c
 few:∀a f,T.fn a=some f→f.params.length≤100
 apart:∀a,(T.cls a).isSome=true→T.fn a=none
section
variable{prog:Program}{w:World}{YC:Heap}{K:Frag}{T:Tab}
theorem S9(X:xP K T){N d:Nat}{hd:Option Nat}{a:Nat}{args:List V}{H:MH}{Q:Q1}{E:E1}(hs:(T.fn a).isSome=true)(h:au T N d hd (.con (.ref a)) args H Q E):args.length≤100:=by
 obtain ⟨fn,hT⟩:=Option.isSome_iff_exists.mp hs
 induction d using Nat.casesOn with
 | zero=>exact h.elim
 | succ d=>
  exact aa.el (Gk hT h) fun loc hb zz=>Nat.le_trans (Gj hb).1 (X.few a fn hT)
theorem Tc(G:Gd prog w YC K T)(X:xP K T)(N:Nat)(d:Nat):eZ prog w YC T (au T N d) d∧ug prog w YC T (au T N d) d:=by
 induction d with
 | zero=>exact ⟨fun zz zz zz zz zz zz h=>h.elim,fun zz zz zz zz zz zz zz h=>h.elim⟩
 | succ d ih=>
  obtain ⟨ih1,ih2⟩:=ih
  have code:=SJ G X.fn (N:=N) ih1
  refine ⟨fun hd f args H Q E hw=> ?_,code⟩
  induction f using V.casesOn with
  | con v=>
   induction v using PySem.Value.casesOn with
   | ref a=>
    induction hT:T.fn a using Option.casesOn with
    | some fn=>
     refine ⟨(by show ((T.fn a).isSome || (T.cls a).isSome)=true;rw [hT];rfl),fun A fr own s fv YG Q' E' I rf rv kq ke=> ?_⟩
     obtain rfl:=rf.e_con
     exact wpAny_call (code hd a args H Q E (by rw [hT];rfl) hw A fr own s YG _ I rv kq ke)
    | none=>
     refine aa.el (Sy hT hw) fun c hc hall=> ?_
     refine ⟨(by show ((T.fn a).isSome || (T.cls a).isSome)=true;rw [hc];exact Bool.or_true _),fun A fr own s fv YG Q' E' I rf rv kq ke=> ?_⟩
     obtain rfl:=rf.e_con
     have m:=X.cls a c hc
     induction hx:c.isExc using Bool.casesOn with
     | false=>
      rw [hx] at hall
      exact SN G ih2 hc m hx hall I rv kq ke
     | true=>
      rw [hx] at hall
      have hl:=S9 X m.tab (hall _ I.ok.fresh)
      exact SQ G ih2 hc m hx hall I rv (by have:bh=16777216:=rfl;simp only [List.length_cons] at hl;omega) kq ke
   | builtin id=>
    refine ⟨rfl,fun A fr own s fv YG Q' E' I rf rv kq ke=> ?_⟩
    obtain rfl:=rf.e_con
    exact S7 G X.cls hw I.ao.handled I.ok rv kq
   | type t=>
    refine ⟨rfl,fun A fr own s fv YG Q' E' I rf rv kq ke=> ?_⟩
    obtain rfl:=rf.e_con
    exact S8 hw I.ok rv kq
   | _=>exact False.elim hw
  | _=>exact False.elim hw
end
set_option maxHeartbeats 4000000
theorem Td{a b:V}{v:Value}(ha:sZ v=some a)(h:V.sameF a b=true):a=b:=by
 induction a using V.casesOn with
 | none=>exact (mH h).symm
 | bool x=>exact (mG (eq_of_beq h)).symm
 | int x=>exact (dN (eq_of_beq h)).symm
 | str x=>exact (lA (eq_of_beq h)).symm
 | _=>exact bz h
theorem Te{K:Frag}{n:Nat}{x:V}{v:Value}:nZ K (n+1) x v=match sZ v with
  | some u=>V.sameF u x
  | none=>(jm x).any fun xs=>(Av K v).any fun vs=>dY (nZ K n) xs vs:=rfl
set_option tactic.hygienic true in
theorem Tf{K:Frag}{n:Nat}{x:V}{v:Value}(h:nZ K n x v=true):DV K x v:=by
 induction n generalizing x v with
 | zero=>exact bz h
 | succ n ih=>
  rw [Te] at h
  induction hf:sZ v using Option.casesOn with
  | some u=>
   rw [hf] at h
   obtain rfl:=Td hf h
   induction v using PySem.Value.casesOn with
   | none=>obtain rfl:=Option.some.inj hf;exact .none
   | bool b=>obtain rfl:=Option.some.inj hf;exact .bool _
   | int i t=>obtain rfl:=Option.some.inj hf;exact .int _ _
   | str t tk=>
    obtain rfl:=Option.some.inj hf
    have z:=DV.str (K:=K) t.cps.toList tk
    rw [jz] at z;exact z
   | _=>exact aG hf
  | none=>
   rw [hf] at h
   obtain ⟨xs,hx,h⟩:=oH h
   obtain ⟨vs,hv,h⟩:=oH h
   obtain rfl:=w5 hx
   induction v using PySem.Value.casesOn with
   | ref a=>
    refine cg hv fun o hk hv=> ?_
    obtain ⟨c,d,dt,sl⟩:=o
    induction dt using PySem.Data.casesOn with
    | seq vs n=>
     obtain ⟨h1,h2⟩:=fV hv
     refine az h1 fun h1 h'=>az h' fun h3 h4=> ?_
     obtain rfl:=eq_of_beq h1;obtain rfl:=Option.isNone_iff_eq_none.mp h3;obtain rfl:=Array.isEmpty_iff.mp h4;obtain rfl:=Option.some.inj h2
     exact .tup hk (jZ .nil (fun zz zz zz zz h r=> .cons (ih h) r) h)
    | _=>exact aG hv
   | _=>exact aG hv
theorem Tg{b:FuncBody}{k:List Stmt→Bool}{P:Prop}(h:Ay b k=true)(f:∀body,b= .stmts body→k body=true→P):P:=by
 induction b using PySem.FuncBody.casesOn with
 | stmts body=>exact f _ rfl h
 | expr=>exact bz h
set_option tactic.hygienic true in
theorem Th{K:Frag}{d:Value}{xs:List V}(h:Aw K d xs=true):∃dv,j4 K xs dv∧((d= .none∧dv= [])∨∃t o n,d= .ref t∧K.lookup t=some o∧o.data= .seq dv.toArray n):=by
 induction d using PySem.Value.casesOn with
 | none=>obtain rfl:=List.isEmpty_iff.mp h;exact ⟨[], .nil, .inl ⟨rfl,rfl⟩⟩
 | ref t=>
  have h:(gA (K.lookup t) fun o=>match o.data with | .seq items _=>dY (nZ K 9) xs items.toList | _=>false)=true:=h
  induction ho:K.lookup t using Option.casesOn with
  | none=>rw [ho] at h;exact bz h
  | some o=>
   rw [ho] at h
   obtain ⟨c,d,dt,sl⟩:=o
   induction dt using PySem.Data.casesOn with
   | seq items n=>exact ⟨items.toList,jZ .nil (fun zz zz zz zz h r=> .cons (Tf h) r) h, .inr ⟨t,_,n,rfl,ho,rfl⟩⟩
   | _=>exact bz h
 | _=>exact bz h
theorem Ti{K:Frag}{g:dK}{T:Tab}(hg:T.glob=jR g){a:Addr}{fn:Fn}(h:mC K g a fn=true):uf K T a fn:=by
 refine Bb h fun ob fd hk e h=>az h fun h1 h=>az h fun h2 h=>az h fun h3 h=>az h fun h4 h=>az h fun h5 h=>az h fun h6 h=>az h fun h7 h=>az h fun h8 h=>az h fun h9 h=>az h fun h10 h=>az h fun h11 h=>az h fun h12 h=>az h fun h13 h=>az h fun h14 h=>az h fun h15 h=>az h fun h16 h=>Tg h fun body hb h17=> ?_
 obtain ⟨dv,d1,d2⟩:=Th h16
 obtain ⟨c,d,dt,sl⟩:=ob
 subst e
 exact .ex (wF.symm.trans hk) (not_true h1) (not_true h2) (eq_of_beq h3) (eq_of_beq h4) (eq_of_beq h5) (List.isEmpty_iff.mp h6) hb (KZ.symm.trans h7) (List.isEmpty_iff.mp h8) (List.isEmpty_iff.mp h9) (Option.isNone_iff_eq_none.mp h10) (Option.isNone_iff_eq_none.mp h11) (Ga h12) (xN h13) (fun x hx=>qI (List.all_eq_true.mp h14 x hx)) hg h17 d1 (Nat.le_of_ble_eq_true h15) d2
theorem Tj{o:Option CFound}{f:Nat}(h:Bc o f=true):o=some (.val (.ref f)):=by
 induction o using Option.casesOn with
 | none=>exact bz h
 | some x=>induction x using PySem.W.CFound.casesOn with
  | val v=>rw [eq_of_beq (h:(v== .ref f)=true)]
  | get a b c d=>exact nomatch (h:false=true)
theorem Tn{o:Option Obj}{k:ClassData→Array (Option Value)→Bool}{P:Prop}(h:Bd o k=true)(f:∀dd cd sl,o=some ⟨.type "type",dd, .cls cd,sl⟩→k cd sl=true→P):P:=by
 induction o using Option.casesOn with
 | none=>exact bz h
 | some ob=>
  obtain ⟨oc,dd,dt,sl⟩:=ob
  induction dt using PySem.Data.casesOn with
  | cls cd=>
   obtain ⟨h1,h2⟩:=Bool.and_eq_true_iff.1 (h:(oc== .type "type" && k cd sl)=true)
   obtain rfl:=eq_of_beq h1
   exact f dd cd sl rfl h2
  | _=>exact nomatch (h:false=true)
theorem Gm{n:String}{f:Nat}:∀{ms:List (String×Nat)},ms.lookup n=some f→(n,f)∈ms
 | [],h=>nomatch h
 | (k,v)::r,h=>by
  rw [List.lookup_cons] at h
  induction hb:n==k using Bool.casesOn with
  | true=>rw [hb] at h;obtain rfl:=Option.some.inj h;rw [beq_iff_eq.mp hb];exact List.mem_cons_self
  | false=>rw [hb] at h;exact List.mem_cons_of_mem _ (Gm h)
theorem Tp{K:Frag}{a:Addr}{cd:ClassData}{sl:Array (Option Value)}{dd:Option Addr}(hk:K.lookup a=some ⟨.type "type",dd, .cls cd,sl⟩)(b1:cd.mro=mD a)(b2:cd.hasDel=false)(b3:wG sl=true):
  ∃nm q N bs hdct sn sub ab col dd k0 k1 k2 k3 k5,K.lookup a=some (excClassObj nm q a N bs [.type "Exception", .type "BaseException", .type "object"] hdct sn sub ab col dd k0 k1 k2 k3 k5 "Exception.__new__"):=by
 obtain ⟨n1,n2,n3,n4,n5,n6,n7,n8,n9,n10,n11⟩:=cd
 obtain rfl:=(show n3=mD a from b1)
 obtain rfl:=(show n11=false from b2)
 have esl:sl=#[jw sl 0,jw sl 1,jw sl 2,jw sl 3,some (.builtin "Exception.__new__"),jw sl 5]:=congrArg List.toArray (eq_of_beq b3)
 exact ⟨n1,n5,n4,n2,n6,n7,n8,n9,n10,dd,_,_,_,_,_,hk.trans (congrArg (fun x=>some (⟨_,_,_,x⟩:Obj)) esl)⟩
theorem Gn{K:Frag}{T:Tab}{a:Addr}{c:Cls}(h:s6 K a c=true)(ht:(T.fn c.init).isSome=true):jX K a c∧oU K T a c:=by
 refine Tn h fun dd cd sl hk h=>az h fun h1 h=>az h fun h2 h=>az h fun h3 h=>az h fun h4 h=>az h fun h5 h=>az h fun h6 h=>az h fun h7 h=>az h fun h8 h=>az h fun h9 h=>az h fun h10 h=>az h fun h11 h=>az h fun h12 h13=> ?_
 have hc:clsIn K a=some cd:=by unfold clsIn;rw [hk]
 have meth:∀n f,c.meths.lookup n=some f→(findIn K (.ref a) (nm n)=some (some (.ref f))∧typeIn K (.ref f)=some (.type "function"))∧findCls K (.ref a) (.type "type") (nm n)=some (.val (.ref f)):=fun n f e=>
  az (List.all_eq_true.1 h7 _ (Gm e)) fun z1 z=>az z fun z2 z3=>⟨⟨eq_of_beq z1,eq_of_beq z2⟩,Tj z3⟩
 have fld:∀n∈c.fields,findIn K (.ref a) (nm n)=some none:=fun n hn=>eq_of_beq (List.all_eq_true.1 h6 n hn)
 have hmem:∀base,cd.mro=mD a→(mD a).contains base=true→subIn K (.ref a) base=some true:=fun base b1 e=>by
  show mroIn K a base=_
  unfold mroIn
  rw [hc,Option.bind_some,b1]
  exact congrArg some e
 have key:∀(cd':_) (e1:_) (e2:_) (e3:_),jX K a c:=fun cd' e1 e2 e3=>⟨cd',eq_of_beq h3,eq_of_beq h4,eq_of_beq h5,fld,fun n f e=>(meth n f e).1,eq_of_beq h8,⟨.type "type",h9,fun n f e=>(meth n f e).2⟩,Nat.le_of_ble_eq_true h10,e1,e2,e3⟩
 induction hx:c.isExc using Bool.casesOn with
 | false=>
  rw [hx] at h2
  refine az (h2:(onlyObject cd.mro && (!cd.mro.isEmpty && makesIn K a))=true) fun b1 b=>az b fun b2 b3=> ?_
  have no:∀{p:Prop},c.isExc=true→p:=fun e=>nomatch hx.symm.trans e
  exact ⟨key ⟨cd,hc,h1,not_true b2,only_has b1,fun self=>refuse_only self b1⟩ no no no,⟨fun zz=>b3,eq_of_beq h11,eq_of_beq h12,ht,h13⟩⟩
 | true=>
  rw [hx] at h2
  refine az (h2:(cd.mro==mD a && (!cd.hasDel && wG sl))=true) fun b1 b=>az b fun b2 b3=> ?_
  have b1:=eq_of_beq b1
  refine ⟨key ⟨cd,hc,h1,by rw [b1];rfl,by rw [b1];exact List.elem_eq_true_of_mem (.tail _ (.tail _ (.tail _ (.head _)))),fun self=> ?_⟩ (fun zz=>hmem _ b1 (List.elem_eq_true_of_mem (.tail _ (.tail _ (.head _))))) (fun zz=>Tp hk b1 (not_true b2) b3) fun zz=>hmem _ b1 (List.elem_eq_true_of_mem (.tail _ (.head _))),⟨fun e=>(nomatch hx.symm.trans e),eq_of_beq h11,eq_of_beq h12,ht,h13⟩⟩
  rw [b1]
  unfold mD
  rw [refuseLoop_ref]
  exact PySem.F.store_Exception.passes self
end Mine
set_option linter.unusedSectionVars false
namespace Mine
variable[Z9]
inductive W where
 | fals
 | obj (H:MH) (a:Nat) (K:O→W)
 | optv (o:Option V) (K:V→W)
 | optn (o:Option Nat) (K:Nat→W)
 | opts (o:Option (List Txt)) (K:List Txt→W)
 | br (b:Bool) (A B:W)
 | need (p:Prop) (w:W)
 | stop (S:QS→ES→Prop) (K:Flow→Loc→MH→W) (E:Nat→Loc→MH→W)
noncomputable def W.P(w:W):Prop:=W.rec (motive:=fun zz=>Prop) False (fun H a zz ih=>aa (H a) ih) (fun o zz ih=>aa o ih) (fun o zz ih=>aa o ih) (fun o zz ih=>aa o ih)
 (fun b zz zz p q=>Mine.br b p q) (fun p zz q=>p∧q) (fun S zz zz k e=>S k e) w
inductive Fs where
 | n
 | z
 | o {H:MH} {a:Nat} {x:O} (h:H a=some x) (r:Fs)
 | v {o:Option V} {x:V} (h:o=some x) (r:Fs)
 | k {o:Option Nat} {x:Nat} (h:o=some x) (r:Fs)
 | s {o:Option (List Txt)} {x:List Txt} (h:o=some x) (r:Fs)
 | t {b:Bool} (h:b=true) (r:Fs)
 | f {b:Bool} (h:b=false) (r:Fs)
 | p {p:Prop} (h:p) (r:Fs)
inductive Key where
 | o (H:MH) (a:Nat)
 | v (o:Option V)
 | k (o:Option Nat)
 | s (o:Option (List Txt))
 | b (b:Bool)
 | p (p:Prop)
noncomputable def Fs.keys(f:Fs):List Key:=Fs.rec (motive:=fun zz=>List Key) [] [] (fun {H a _} _ _ r=> .o H a::r) (fun {o _} _ _ r=> .v o::r) (fun {o _} _ _ r=> .k o::r) (fun {o _} _ _ r=> .s o::r)
 (fun {b} _ _ r=> .b b::r) (fun {b} _ _ r=> .b b::r) (fun {p} _ _ r=> .p p::r) f
abbrev Ex:=List Key×W
noncomputable def kc(k:Key)(e:Ex):Ex:=(k::e.1,e.2)
noncomputable def W.exec(w:W):Fs→Ex:=W.rec (motive:=fun zz=>Fs→Ex) (fun zz=>([], .fals))
 (fun H a K ih f=>Fs.casesOn (motive:=fun zz=>Ex) f ([], .obj H a K) ([], .obj H a K) (fun {_ _ x} _ r=>kc (.o H a) (ih x r)) (fun zz zz=>([], .fals)) (fun zz zz=>([], .fals)) (fun zz zz=>([], .fals)) (fun zz zz=>([], .fals)) (fun zz zz=>([], .fals)) (fun zz zz=>([], .fals)))
 (fun o K ih f=>Fs.casesOn (motive:=fun zz=>Ex) f (Option.rec ([], .optv o K) (fun x=>ih x .n) o) ([], .optv o K) (fun zz zz=>Option.rec ([], .fals) (fun x=>ih x f) o) (fun {_ x} _ r=>kc (.v o) (ih x r)) (fun zz zz=>Option.rec ([], .fals) (fun x=>ih x f) o) (fun zz zz=>Option.rec ([], .fals) (fun x=>ih x f) o) (fun zz zz=>Option.rec ([], .fals) (fun x=>ih x f) o) (fun zz zz=>Option.rec ([], .fals) (fun x=>ih x f) o) (fun zz zz=>Option.rec ([], .fals) (fun x=>ih x f) o))
 (fun o K ih f=>Fs.casesOn (motive:=fun zz=>Ex) f (Option.rec ([], .optn o K) (fun x=>ih x .n) o) ([], .optn o K) (fun zz zz=>Option.rec ([], .fals) (fun x=>ih x f) o) (fun zz zz=>Option.rec ([], .fals) (fun x=>ih x f) o) (fun {_ x} _ r=>kc (.k o) (ih x r)) (fun zz zz=>Option.rec ([], .fals) (fun x=>ih x f) o) (fun zz zz=>Option.rec ([], .fals) (fun x=>ih x f) o) (fun zz zz=>Option.rec ([], .fals) (fun x=>ih x f) o) (fun zz zz=>Option.rec ([], .fals) (fun x=>ih x f) o))
 (fun o K ih f=>Fs.casesOn (motive:=fun zz=>Ex) f (Option.rec ([], .opts o K) (fun x=>ih x .n) o) ([], .opts o K) (fun zz zz=>Option.rec ([], .fals) (fun x=>ih x f) o) (fun zz zz=>Option.rec ([], .fals) (fun x=>ih x f) o) (fun zz zz=>Option.rec ([], .fals) (fun x=>ih x f) o) (fun {_ x} _ r=>kc (.s o) (ih x r)) (fun zz zz=>Option.rec ([], .fals) (fun x=>ih x f) o) (fun zz zz=>Option.rec ([], .fals) (fun x=>ih x f) o) (fun zz zz=>Option.rec ([], .fals) (fun x=>ih x f) o))
 (fun b A B ia ib f=>Fs.casesOn (motive:=fun zz=>Ex) f (Bool.rec (ib .n) (ia .n) b) ([], .br b A B) (fun zz zz=>Bool.rec (ib f) (ia f) b) (fun zz zz=>Bool.rec (ib f) (ia f) b) (fun zz zz=>Bool.rec (ib f) (ia f) b) (fun zz zz=>Bool.rec (ib f) (ia f) b) (fun zz r=>kc (.b b) (ia r)) (fun zz r=>kc (.b b) (ib r)) (fun zz zz=>Bool.rec (ib f) (ia f) b))
 (fun p w ih f=>Fs.casesOn (motive:=fun zz=>Ex) f ([], .need p w) ([], .need p w) (fun zz zz=>([], .fals)) (fun zz zz=>([], .fals)) (fun zz zz=>([], .fals)) (fun zz zz=>([], .fals)) (fun zz zz=>([], .fals)) (fun zz zz=>([], .fals)) (fun zz r=>kc (.p p) (ih r)))
 (fun S K E zz zz zz=>([], .stop S K E)) w
noncomputable def W.nextK(w:W)(fl:Flow)(l:Loc)(h:MH):W:=W.rec (motive:=fun zz=>W) .fals (fun zz zz zz zz=> .fals) (fun zz zz zz=> .fals) (fun zz zz zz=> .fals) (fun zz zz zz=> .fals) (fun zz zz zz zz zz=> .fals) (fun zz zz zz=> .fals) (fun zz K zz zz zz=>K fl l h) w
noncomputable def W.nextE(w:W)(x:Nat)(l:Loc)(h:MH):W:=W.rec (motive:=fun zz=>W) .fals (fun zz zz zz zz=> .fals) (fun zz zz zz=> .fals) (fun zz zz zz=> .fals) (fun zz zz zz=> .fals) (fun zz zz zz zz zz=> .fals) (fun zz zz zz=> .fals) (fun zz zz E zz zz=>E x l h) w
noncomputable def W.shape(w:W):QS→ES→Prop:=W.rec (motive:=fun zz=>QS→ES→Prop) (fun zz zz=>False) (fun zz zz zz zz zz zz=>False) (fun zz zz zz zz zz=>False) (fun zz zz zz zz zz=>False) (fun zz zz zz zz zz=>False) (fun zz zz zz zz zz zz zz=>False) (fun zz zz zz zz zz=>False) (fun S zz zz zz zz=>S) w
noncomputable def W.next(w:W):Prop:=w.shape (fun fl l h=>(w.nextK fl l h).P) (fun x l h=>(w.nextE x l h).P)
theorem W.next_P{w:W}(h:w.next):w.P:=by induction w using W.casesOn with
 | stop S K E=>exact h
 | _=>exact h.elim
theorem mV{k k':Key}{e:Ex}{r:List Key}(h:(kc k e).1=k'::r):k=k'∧e.1=r:=by
 injection h with h1 h2;exact ⟨h1,h2⟩
theorem W.exec_ok(w:W):∀f:Fs,(w.exec f).1=f.keys→(w.exec f).2.P→w.P:=by
 induction w with
 | fals=>exact fun zz zz h=>h
 | stop S K E _ _=>exact fun zz zz h=>h
 | obj H a K ih=>
  intro f e h
  induction f using Fs.casesOn with
  | o q r=>obtain ⟨e1,e2⟩:=mV e;injection e1 with e3 e4;subst e3 e4;exact aa.mk q (ih _ r e2 h)
  | n=>exact h
  | z=>exact h
  | _=>exact h.elim
 | optv o K ih=>
  intro f e h
  induction f using Fs.casesOn with
  | v q r=>obtain ⟨e1,e2⟩:=mV e;injection e1 with e3;subst e3;exact aa.mk q (ih _ r e2 h)
  | z=>exact h
  | n=>induction o using Option.casesOn with
   | none=>exact h
   | some x=>exact ih x _ e h
  | _=>induction o using Option.casesOn with
   | none=>exact h.elim
   | some x=>exact ih x _ e h
 | optn o K ih=>
  intro f e h
  induction f using Fs.casesOn with
  | k q r=>obtain ⟨e1,e2⟩:=mV e;injection e1 with e3;subst e3;exact aa.mk q (ih _ r e2 h)
  | z=>exact h
  | n=>induction o using Option.casesOn with
   | none=>exact h
   | some x=>exact ih x _ e h
  | _=>induction o using Option.casesOn with
   | none=>exact h.elim
   | some x=>exact ih x _ e h
 | opts o K ih=>
  intro f e h
  induction f using Fs.casesOn with
  | s q r=>obtain ⟨e1,e2⟩:=mV e;injection e1 with e3;subst e3;exact aa.mk q (ih _ r e2 h)
  | z=>exact h
  | n=>induction o using Option.casesOn with
   | none=>exact h
   | some x=>exact ih x _ e h
  | _=>induction o using Option.casesOn with
   | none=>exact h.elim
   | some x=>exact ih x _ e h
 | br b A B ia ib=>
  intro f e h
  induction f using Fs.casesOn with
  | t q r=>obtain ⟨e1,e2⟩:=mV e;injection e1 with e3;subst e3;subst q;exact ia r e2 h
  | f q r=>obtain ⟨e1,e2⟩:=mV e;injection e1 with e3;subst e3;subst q;exact ib r e2 h
  | z=>exact h
  | _=>induction b using Bool.casesOn with
   | true=>exact ia _ e h
   | false=>exact ib _ e h
 | need p w ih=>
  intro f e h
  induction f using Fs.casesOn with
  | p q r=>obtain ⟨e1,e2⟩:=mV e;injection e1 with e3;subst e3;exact ⟨q,ih r e2 h⟩
  | n=>exact h
  | z=>exact h
  | _=>exact h.elim
theorem W.go{w:W}(f:Fs)(e:(w.exec f).1=f.keys)(h:(w.exec f).2.next):w.P:=w.exec_ok f e (W.next_P h)
abbrev QW:=V→MH→W
abbrev EW:=Nat→MH→W
abbrev QL:=Flow→Loc→MH→W
abbrev EL:=Nat→Loc→MH→W
noncomputable def dw(p:Prop):W:= .stop (fun zz zz=>p) (fun zz zz zz=> .fals) (fun zz zz zz=> .fals)
noncomputable def Tq(Q:QW):QL:=fun fl zz h=>match fl with
 | .ret v=>Q v h
 | _=> .fals
noncomputable def val(S:Q1→E1→Prop)(Q:QW)(E:EW):W:= .stop (fun q e=>S (fun v h=>q (.ret v) [] h) (fun x h=>e x [] h)) (Tq Q) (fun x zz h=>E x h)
noncomputable def xQ:EW:=fun zz zz=> .fals
noncomputable def gC(S:Q1→Prop)(Q:QW):W:=val (fun q zz=>S q) Q xQ
noncomputable def qK{α:Type}(o:Option α)(K:α→W):W:=Option.rec (motive:=fun zz=>W) .fals K o
noncomputable def bV(b:Bool)(w:W):W:= .br b w .fals
noncomputable def dZ(b:Bool)(w:W):W:=Bool.rec (motive:=fun zz=>W) .fals w b
noncomputable def bu(l:Loc)(x:String)(v:V):Loc:=List.rec (motive:=fun zz=>Loc) [(x,v)] (fun p r ih=>Bool.rec (motive:=fun zz=>Loc) (p::ih) ((x,v)::r) (p.1==x)) l
noncomputable def cR(l:Loc)(x:String):Option V:=List.rec (motive:=fun zz=>Option V) none (fun p zz ih=>Prod.rec (motive:=fun zz=>Option V) (fun y v=>Bool.rec (motive:=fun zz=>Option V) ih (some v) (y==x)) p) l
theorem lF(x:String):∀l:Loc,cR l x=get l x
 | []=>rfl
 | (y,v)::r=>by
  show Bool.rec (motive:=fun zz=>Option V) (cR r x) (some v) (y==x)=match y==x with | true=>some v | false=>get r x
  rw [lF x r]
  induction y==x using Bool.casesOn<;>rfl
theorem jC(x:String)(v:V):∀l:Loc,bu l x v=put l x v
 | []=>rfl
 | (y,u)::r=>by
  show Bool.rec (motive:=fun zz=>Loc) ((y,u)::bu r x v) ((x,v)::r) (y==x)=match y==x with | true=>(y,v)::r | false=>(y,u)::put r x v
  rw [jC x v r]
  induction e:y==x using Bool.casesOn with
  | true=>rw [eq_of_beq e]
  | false=>rfl
noncomputable def gR(xs:List String):List V→Loc→Loc:=List.rec (motive:=fun zz=>List V→Loc→Loc) (fun zz l=>l) (fun x zz ih vs l=>List.rec (motive:=fun zz=>Loc) l (fun v r zz=>ih r (bu l x v)) vs) xs
theorem xR:∀(xs:List String) (vs:List V) (l:Loc),gR xs vs l=nQ xs vs l
 | [],_,_=>rfl
 | _::_,[],_=>rfl
 | x::xs,v::vs,l=>by
  show gR xs vs (bu l x v)=nQ xs vs (put l x v)
  rw [jC,xR]
noncomputable def ul(op:Bop)(w:W):W:=match op with
 | .add=>w
 | _=> .fals
noncomputable def xT(H:MH)(o:O)(Q:QW):W:=gC (fun q=>∀z,H z=none→q (.ref z) (H.upd z o)) Q
structure mW(op:Bop)(a b:V)(H:MH)(Q:Q1):Prop where
 h:pO op a b H Q
theorem oV(op:Bop)(a b:V)(H:MH)(Q:Q1):mW op a b H Q=pO op a b H Q:=propext ⟨fun ⟨h⟩=>h,fun h=>⟨h⟩⟩
structure mX(m:BM)(self:V)(vs:List V)(H:MH)(Q:Q1):Prop where
 h:pM m self vs H Q
theorem qL(m:BM)(self:V)(vs:List V)(H:MH)(Q:Q1):mX m self vs H Q=pM m self vs H Q:=propext ⟨fun ⟨h⟩=>h,fun h=>⟨h⟩⟩
structure mY(op:Cop)(a b:V)(H:MH)(Q:Bool→MH→Prop):Prop where
 h:jo op a b H Q
theorem oW(op:Cop)(a b:V)(H:MH)(Q:Bool→MH→Prop):mY op a b H Q=jo op a b H Q:=propext ⟨fun ⟨h⟩=>h,fun h=>⟨h⟩⟩
structure bP(hd:Option Nat)(id:String)(vs:List V)(H:MH)(Q:Q1):Prop where
 h:nJ tab hd id vs H Q
theorem Gp(hd:Option Nat)(id:String)(vs:List V)(H:MH)(Q:Q1):bP hd id vs H Q=nJ tab hd id vs H Q:=propext ⟨fun ⟨h⟩=>h,fun h=>⟨h⟩⟩
theorem cH{a b c:Prop}(h:a=c)(k:b=c):a=b:=h.trans k.symm
theorem j5{α:Type}(o:Option α)(K:α→W):(qK o K).P=aa o fun x=>(K x).P:=by induction o using Option.casesOn<;>rfl
theorem lG(b:Bool)(w:W):(bV b w).P=(b=true∧w.P):=by
 induction b using Bool.casesOn with
 | true=>exact propext ⟨fun h=>⟨rfl,h⟩,fun h=>h.2⟩
 | false=>exact propext ⟨fun h=>h.elim,fun h=>nomatch h.1⟩
theorem gU(b:Bool)(w:W):(dZ b w).P=(b=true∧w.P):=by
 induction b using Bool.casesOn with
 | true=>exact propext ⟨fun h=>⟨rfl,h⟩,fun h=>h.2⟩
 | false=>exact propext ⟨fun h=>h.elim,fun h=>nomatch h.1⟩
theorem xU(op:Bop)(w:W):(ul op w).P=(op= .add∧w.P):=by
 induction op using Bop.casesOn with
 | add=>exact propext ⟨fun h=>⟨rfl,h⟩,fun h=>h.2⟩
 | _=>exact propext ⟨fun h=>h.elim,fun h=>nomatch h.1⟩
theorem jD(p:Prop)[Decidable p](w:W):(bV (decide p) w).P=(p∧w.P):=by rw [lG,decide_eq_true_eq]
theorem Tr(n:Nat):(small n=true)=(n≤bh):=Nat.ble_eq
theorem iZ(n:Nat)(w:W):(bV (small n) w).P=(n≤bh∧w.P):=by rw [lG,Tr]
theorem gD{α β:Type}(o:Option α)(f:α→Option β)(K:β→Prop):aa (o.bind f) K=aa o fun x=>aa (f x) K:=by induction o using Option.casesOn<;>rfl
theorem lH{α β:Type}(o:Option α)(f:α→β)(K:β→Prop):aa (o.map f) K=aa o fun x=>K (f x):=by induction o using Option.casesOn<;>rfl
theorem mZ{α:Type}(b:Bool)(o:Option α)(K:α→Prop):aa (dC b o) K=(b=true∧aa o K):=by
 induction b using Bool.casesOn with
 | true=>exact propext ⟨fun h=>⟨rfl,h⟩,fun h=>h.2⟩
 | false=>exact propext ⟨fun h=>h.elim,fun h=>nomatch h.1⟩
theorem lJ{α:Type}(p:Prop)[Decidable p](x:α)(K:α→Prop):aa (if p then some x else none) K=(p∧K x):=by
 by_cases h:p
 ·rw [if_pos h];exact propext ⟨fun k=>⟨h,k⟩,fun k=>k.2⟩
 ·rw [if_neg h];exact propext ⟨fun k=>k.elim,fun k=>h k.1⟩
noncomputable def jb(H:MH)(a:Nat)(K:List V→W):W:= .obj H a fun o=>match o with
 | .list xs=>K xs
 | _=> .fals
noncomputable def xV(H:MH)(a:Nat)(K:List (V×V)→W):W:= .obj H a fun o=>match o with
 | .dict es=>K es
 | _=> .fals
noncomputable def j6(v:V)(K:Nat→W):W:=match v with
 | .ref a=>K a
 | _=> .fals
noncomputable def oX(vs:List V)(K:V→W):W:=match vs with
 | [x]=>K x
 | _=> .fals
noncomputable def xW(vs:List V)(K:V→V→W):W:=match vs with
 | [x,y]=>K x y
 | _=> .fals
noncomputable def iu(v:V)(K:Int→W):W:=match v with
 | .int i=>K i
 | _=> .fals
theorem jE(H:MH)(a:Nat)(K:List V→W):(jb H a K).P=aa (bN (H a)) fun xs=>(K xs).P:=by
 show aa (H a) _=_
 induction H a using Option.casesOn with
 | none=>rfl
 | some o=>induction o using Mine.O.casesOn<;>rfl
theorem Gq(H:MH)(a:Nat)(K:List (V×V)→W):(xV H a K).P=aa (lq (H a)) fun xs=>(K xs).P:=by
 show aa (H a) _=_
 induction H a using Option.casesOn with
 | none=>rfl
 | some o=>induction o using Mine.O.casesOn<;>rfl
theorem lK(v:V)(K:Nat→W):(j6 v K).P=aa (cX v) fun a=>(K a).P:=by induction v using V.casesOn<;>rfl
theorem jc(v:V)(K:Int→W):(iu v K).P=aa (cY v) fun a=>(K a).P:=by induction v using V.casesOn<;>rfl
theorem qM(vs:List V)(K:V→W):(oX vs K).P=aa (jk vs) fun x=>(K x).P:=by
 rcases vs with _ | ⟨x,_ | ⟨y,r⟩⟩<;>rfl
theorem Gr(vs:List V)(K:V→V→W):(xW vs K).P=aa (pK vs) fun p=>(K p.1 p.2).P:=by
 rcases vs with _ | ⟨x,_ | ⟨y,_ | ⟨z,r⟩⟩⟩<;>rfl
noncomputable def Gs(op:Bop)(x y:Int)(K:Int→W):W:=match op with
 | .add=>K (x+y)
 | .sub=>K (x - y)
 | .mul=>bV (decide (x.natAbs<4294967296∧y.natAbs<4294967296)) (K (x*y))
 | .fdiv=>bV (decide (0<y∧y<1073741824)) (K (x.fdiv y))
 | .fmod=>bV (decide (0<y)) (K (x.fmod y))
 | .pow=>bV (decide (x=2∧0≤y∧y≤30)) (K (2 ^ y.toNat))
theorem Tt(op:Bop)(x y:Int)(K:Int→W):(Gs op x y K).P=aa (su op x y) fun z=>(K z).P:=by
 induction op using Bop.casesOn
 ·rfl
 ·rfl
 ·exact cH (jD _ _) (lJ _ _ _)
 ·exact cH (jD _ _) (lJ _ _ _)
 ·exact cH (jD _ _) (lJ _ _ _)
 ·exact cH (jD _ _) (lJ _ _ _)
noncomputable def Gu(op:Bop)(a b:V)(H:MH)(Q:QW):W:=match a with
 | .int x=>iu b fun y=>Gs op x y fun z=>Q (.int z) H
 | .str x=>match b with
  | .str y=>ul op (bV (small (x++y).length) (Q (.str (x++y)) H))
  | _=>gC (mW op (.str x) b H) Q
 | .tup x=>match b with
  | .tup y=>ul op (bV (small (x++y).length) (Q (.tup (x++y)) H))
  | _=>gC (mW op (.tup x) b H) Q
 | .ref x=>match b with
  | .ref y=>jb H x fun xs=>ul op (jb H y fun ys=>bV (small (xs++ys).length) (xT H (.list (xs++ys)) Q))
  | _=>gC (mW op (.ref x) b H) Q
 | _=>gC (mW op a b H) Q
theorem Tu(op:Bop)(a b:V)(H:MH)(Q:QW):(Gu op a b H Q).P=pO op a b H fun v h=>(Q v h).P:=by
 induction a using V.casesOn with
 | int x=>exact (jc _ _).trans (congrArg (aa _) (funext fun y=>Tt _ _ _ _))
 | str x=>induction b using V.casesOn with
  | str y=>exact (xU _ _).trans (congrArg (And _) (iZ _ _))
  | _=>exact oV _ _ _ _ _
 | tup x=>induction b using V.casesOn with
  | tup y=>exact (xU _ _).trans (congrArg (And _) (iZ _ _))
  | _=>exact oV _ _ _ _ _
 | ref x=>induction b using V.casesOn with
  | ref y=>exact (jE _ _ _).trans (congrArg (aa _) (funext fun xs=>(xU _ _).trans (congrArg (And _) ((jE _ _ _).trans (congrArg (aa _) (funext fun ys=>iZ _ _))))))
  | _=>exact oV _ _ _ _ _
 | _=>exact oV _ _ _ _ _
abbrev QB:=Bool→MH→W
noncomputable def xX(H:MH)(a b:V)(Q:QB):W:=match a with
 | .int a=>iu b fun b=>Q (a==b) H
 | .str a=>match b with
  | .str b=>Q (a==b) H
  | _=> .fals
 | .bool a=>match b with
  | .bool b=>Q (a==b) H
  | _=> .fals
 | _=>gC (fun q=>mY .eq a b H fun r h=>q (.bool r) h) fun v h=>match v with
  | .bool r=>Q r h
  | _=> .fals
noncomputable def qN(f:Int→Int→Bool)(a b:V)(H:MH)(Q:QB):W:=iu a fun x=>iu b fun y=>Q (f x y) H
noncomputable def xY(H:MH)(a b:V)(Q:QB):W:=match a with
 | .str s=>match b with
  | .ref r=>xV H r fun es=>bV (bB es (.str s)) (Q (aW es (.str s)).isSome H)
  | .tup xs=> .opts (bU xs) fun ts=>Q (ts.contains s) H
  | .str t=>qK (vK s) fun c=>Q (t.contains c) H
  | _=> .fals
 | _=>gC (fun q=>mY .isin a b H fun r h=>q (.bool r) h) fun v h=>match v with
  | .bool r=>Q r h
  | _=> .fals
noncomputable def um(op:Cop)(a b:V)(H:MH)(Q:QB):W:=match op with
 | .eq=>xX H a b Q
 | .ne=>xX H a b fun r h=>Q (!r) h
 | .lt=>qN (fun x y=>decide (x<y)) a b H Q
 | .le=>qN (fun x y=>decide (x≤y)) a b H Q
 | .gt=>qN (fun x y=>decide (y<x)) a b H Q
 | .ge=>qN (fun x y=>decide (y≤x)) a b H Q
 | .is=>bV (isNone b) (Q (isNone a) H)
 | .isNot=>bV (isNone b) (Q (!(isNone a)) H)
 | .isin=>xY H a b Q
 | .notin=>xY H a b fun r h=>Q (!r) h
theorem Gv(H:MH)(a b:V)(Q:QB):(xX H a b Q).P=jo .eq a b H fun r h=>(Q r h).P:=by
 induction a using V.casesOn with
 | int x=>exact cH (jc _ _) (lH _ _ _)
 | str x=>induction b using V.casesOn<;>rfl
 | bool x=>induction b using V.casesOn<;>rfl
 | _=>exact oW _ _ _ _ _
theorem Gw(H:MH)(a b:V)(Q:QB):(xY H a b Q).P=jo .isin a b H fun r h=>(Q r h).P:=by
 induction a using V.casesOn with
 | str s=>induction b using V.casesOn with
  | ref r=>exact cH (Gq _ _ _) ((gD _ _ _).trans (congrArg (aa _) (funext fun es=>cH (mZ _ _ _) (lG _ _))))
  | tup xs=>exact cH rfl (lH _ _ _)
  | str t=>exact cH (j5 _ _) (lH _ _ _)
  | _=>rfl
 | _=>exact oW _ _ _ _ _
theorem uo(f:Int→Int→Bool)(a b:V)(H:MH)(Q:QB):(qN f a b H Q).P=aa (nO f a b) fun r=>(Q r H).P:=
 cH (jc _ _) ((gD _ _ _).trans (congrArg (aa _) (funext fun zz=>cH (lH _ _ _) (jc _ _))))
theorem xZ(op:Cop)(a b:V)(H:MH)(Q:QB):(um op a b H Q).P=jo op a b H fun r h=>(Q r h).P:=by
 induction op using Cop.casesOn with
 | eq=>exact Gv H a b Q
 | ne=>exact cH (Gv H a b fun r h=>Q (!r) h) (lH _ _ _)
 | isin=>exact Gw H a b Q
 | notin=>exact cH (Gw H a b fun r h=>Q (!r) h) (lH _ _ _)
 | lt=>exact uo _ a b H Q
 | le=>exact uo _ a b H Q
 | gt=>exact uo _ a b H Q
 | ge=>exact uo _ a b H Q
 | is=>exact cH (lG _ _) (mZ _ _ _)
 | isNot=>exact cH (lG _ _) (mZ _ _ _)
noncomputable def uq{α:Type}(xs:List α)(y:V)(K:Nat→W):W:=iu y fun k=> .optn (cP xs.length k) K
noncomputable def Gx(H:MH)(x y:V)(Q:QW):W:=match x with
 | .con _=> .optv (vU tab x y) fun v=>Q v H
 | .ref r=> .obj H r fun o=>match o with
  | .list xs=>uq xs y fun p=> .optv xs[p]? fun v=>Q v H
  | .dict es=>match y with
   | .str s=>bV (bB es (.str s)) (.optv (aW es (.str s)) fun v=>Q v H)
   | _=> .fals
  | _=> .fals
 | .tup xs=>uq xs y fun p=> .optv xs[p]? fun v=>Q v H
 | .str s=>uq s y fun p=> .optn s[p]? fun c=>Q (.str [c]) H
 | _=> .fals
theorem yc{α:Type}(xs:List α)(y:V)(K:Nat→W):(uq xs y K).P=aa ((cY y).bind fun k=>cP xs.length k) fun p=>(K p).P:=
 (jc _ _).trans (gD _ _ _).symm
theorem yd{α β:Type}(xs:List α)(y:V)(f:Nat→Option β)(K:β→Prop):aa ((cY y).bind fun k=>(cP xs.length k).bind f) K=aa ((cY y).bind fun k=>cP xs.length k) fun p=>aa (f p) K:=by
 rw [gD,gD]
 exact congrArg (aa _) (funext fun k=>gD _ _ _)
theorem Tv(H:MH)(x y:V)(Q:QW):(Gx H x y Q).P=aa (sE tab H x y) fun v=>(Q v H).P:=by
 induction x using V.casesOn with
 | ref r=>
  refine Eq.trans ?_ (gD (H r) _ _).symm
  show aa (H r) _=_
  refine congrArg (aa _) (funext fun o=> ?_)
  induction o using Mine.O.casesOn with
  | list xs=>exact (yc _ _ _).trans (yd _ _ _ _).symm
  | dict es=>induction y using V.casesOn with
   | str s=>exact cH (lG (bB es (.str s)) (.optv (aW es (.str s)) fun v=>Q v H)) (mZ _ _ _)
   | _=>rfl
  | _=>rfl
 | tup xs=>exact (yc _ _ _).trans (yd _ _ _ _).symm
 | str s=>exact (yc _ _ _).trans (Eq.symm ((yd _ _ _ _).trans (congrArg (aa _) (funext fun p=>lH _ _ _))))
 | _=>rfl
noncomputable def qO(v:V)(K:Option Nat→W):W:=match v with
 | .none=>K none
 | .int i=>bV (decide (0≤i∧i<1000000000)) (K (some i.toNat))
 | _=> .fals
theorem Gy(v:V)(K:Option Nat→W):(qO v K).P=aa (jq v) fun x=>(K x).P:=by
 induction v using V.casesOn with
 | int i=>exact cH (jD _ _) (lJ _ _ _)
 | _=>rfl
structure ye(a lo hi:V)(H:MH)(Q:Q1):Prop where
 h:sG a lo hi H Q
theorem Gz(a lo hi:V)(H:MH)(Q:Q1):ye a lo hi H Q=sG a lo hi H Q:=propext ⟨fun ⟨h⟩=>h,fun h=>⟨h⟩⟩
noncomputable def GC(a lo hi:V)(H:MH)(Q:QW):W:=match a with
 | .str s=>qO lo fun l=>qO hi fun h=>dZ l.isNone (dZ h.isSome (bV (small (cI s l h).length) (Q (.str (cI s l h)) H)))
 | _=>gC (ye a lo hi H) Q
theorem Tw(a lo hi:V)(H:MH)(Q:QW):(GC a lo hi H Q).P=sG a lo hi H fun v h=>(Q v h).P:=by
 induction a using V.casesOn with
 | str s=>
  show (qO lo fun l=>qO hi fun h=>dZ l.isNone (dZ h.isSome (bV (small (cI s l h).length) (Q (.str (cI s l h)) H)))).P=_
  refine (Gy _ _).trans (congrArg (aa _) (funext fun l=>(Gy _ _).trans (congrArg (aa _) (funext fun h=> ?_))))
  refine (gU _ _).trans (congr (congrArg And ?_) ((gU _ _).trans (congrArg (And _) (iZ _ _))))
  induction l using Option.casesOn<;>simp
 | _=>exact Gz _ _ _ _ _
noncomputable def yf(H:MH)(v:V)(n:String)(K:V→W):W:=match v with
 | .ref a=> .obj H a fun o=>match o with
  | .inst _ fs=> .optv (cR fs n) K
  | .exc _ fs=> .optv (cR fs n) K
  | _=> .fals
 | _=> .fals
theorem GD(H:MH)(v:V)(n:String)(K:V→W):(yf H v n K).P=aa ((sH H v).bind (get · n)) fun w=>(K w).P:=by
 induction v using V.casesOn with
 | ref a=>
  show aa (H a) _=aa (((H a).bind zX).bind _) _
  induction H a using Option.casesOn with
  | none=>rfl
  | some o=>induction o using Mine.O.casesOn with
   | inst c fs=>exact congrArg (fun o=>aa o fun w=>(K w).P) (lF n fs)
   | exc c fs=>exact congrArg (fun o=>aa o fun w=>(K w).P) (lF n fs)
   | _=>rfl
 | _=>rfl
noncomputable def yg(H:MH)(o:V)(n:String)(v:V)(K:MH→W):W:=match o with
 | .ref a=> .obj H a fun o=>match o with
  | .inst c fs=>dZ (gO tab c n) (K (H.upd a (.inst c (bu fs n v))))
  | .exc c fs=>dZ (gO tab c n) (K (H.upd a (.exc c (bu fs n v))))
  | _=> .fals
 | _=> .fals
theorem GF(H:MH)(o:V)(n:String)(v:V)(K:MH→W):(yg H o n v K).P=aa (setField tab H o n v) fun h=>(K h).P:=by
 induction o using V.casesOn with
 | ref a=>
  refine Eq.trans ?_ (gD (H a) _ _).symm
  show aa (H a) _=_
  refine congrArg (aa _) (funext fun o=> ?_)
  induction o using Mine.O.casesOn with
  | inst c fs=>exact (congrArg (fun l=>(dZ (gO tab c n) (K (H.upd a (.inst c l)))).P) (jC n v fs)).trans (cH (gU _ _) (mZ _ _ _))
  | exc c fs=>exact (congrArg (fun l=>(dZ (gO tab c n) (K (H.upd a (.exc c l)))).P) (jC n v fs)).trans (cH (gU _ _) (mZ _ _ _))
  | _=>rfl
 | _=>rfl
noncomputable def GJ(H:MH)(o i v:V)(K:MH→W):W:=match o with
 | .ref a=> .obj H a fun o=>match o with
  | .list xs=>iu i fun k=>bV (decide (0≤k∧k.toNat<xs.length∧xs.length≤bh)) (K (H.upd a (.list (xs.set k.toNat v))))
  | .dict es=>bV (bB es i) (bV (decide (es.length<1000)) (K (H.upd a (.dict (bC es i v)))))
  | _=> .fals
 | _=> .fals
theorem Tz(H:MH)(o i v:V)(K:MH→W):(GJ H o i v K).P=aa (vV H o i v) fun h=>(K h).P:=by
 induction o using V.casesOn with
 | ref a=>
  refine Eq.trans ?_ (gD (H a) _ _).symm
  show aa (H a) _=_
  refine congrArg (aa _) (funext fun o=> ?_)
  induction o using Mine.O.casesOn with
  | list xs=>exact cH (jc _ _) ((gD _ _ _).trans (congrArg (aa _) (funext fun k=>cH (lJ _ _ _) (jD _ _))))
  | dict es=>exact cH (lG (bB es i) (bV (decide (es.length<1000)) (K (H.upd a (.dict (bC es i v)))))) ((mZ _ _ _).trans (congrArg (And _) (cH (lJ _ _ _) (jD _ _))))
  | _=>rfl
 | _=>rfl
noncomputable def GK(m:BM)(self:V)(vs:List V)(H:MH)(Q:QW):W:=match m with
 | .append=>j6 self fun a=>jb H a fun xs=>oX vs fun x=>bV (decide (xs.length<bh)) (Q .none (H.upd a (.list (xs++ [x]))))
 | .lpop=>match vs with
  | []=>j6 self fun a=>jb H a fun xs=>bV (small xs.length) (.optv xs.getLast? fun x=>Q x (H.upd a (.list xs.dropLast)))
  | _=>gC (mX .lpop self vs H) Q
 | .extend=>j6 self fun a=>jb H a fun xs=>oX vs fun y=>j6 y fun b=>jb H b fun ys=> .need (a≠b) (bV (small (xs++ys).length) (Q .none (H.upd a (.list (xs++ys)))))
 | .dget=>j6 self fun a=>xV H a fun es=>oX vs fun k=>bV (bB es k) (.br (aW es k).isSome (.optv (aW es k) fun x=>Q x H) (Q .none H))
 | .excInit=>xW vs fun x zz=>j6 x fun a=> .obj H a fun o=>match o with
  | .exc _ _=>Q .none H
  | _=> .fals
 | _=>gC (mX m self vs H) Q
theorem TF(m:BM)(self:V)(vs:List V)(H:MH)(Q:QW):(GK m self vs H Q).P=pM m self vs H fun v h=>(Q v h).P:=by
 induction m using BM.casesOn with
 | append=>exact (lK _ _).trans (congrArg (aa _) (funext fun a=>(jE _ _ _).trans (congrArg (aa _) (funext fun xs=>(qM _ _).trans (congrArg (aa _) (funext fun x=>jD _ _))))))
 | lpop=>induction vs using List.casesOn with
  | nil=>exact (lK _ _).trans (congrArg (aa _) (funext fun a=>(jE _ _ _).trans (congrArg (aa _) (funext fun xs=>(iZ _ _).trans (propext ⟨fun h=>⟨rfl,h⟩,fun h=>h.2⟩)))))
  | cons _ _=>exact qL _ _ _ _ _
 | extend=>exact (lK _ _).trans (congrArg (aa _) (funext fun a=>(jE _ _ _).trans (congrArg (aa _) (funext fun xs=>(qM _ _).trans (((gD _ _ _).trans (congrArg (aa _) (funext fun y=>Eq.symm ((lK _ _).trans (congrArg (aa _) (funext fun b=>(jE _ _ _).trans (congrArg (aa _) (funext fun ys=>congrArg (And _) (iZ _ _))))))))).symm)))))
 | excInit=>
  refine (Gr _ _).trans (((gD _ _ _).trans (congrArg (aa _) (funext fun p=>Eq.symm ((lK _ _).trans (congrArg (aa _) (funext fun a=> ?_)))))).symm)
  show aa (H a) _=aa (excO (H a)) _
  induction H a using Option.casesOn with
  | none=>rfl
  | some o=>induction o using Mine.O.casesOn<;>rfl
 | dget=>exact (lK _ _).trans (congrArg (aa _) (funext fun a=>(Gq _ _ _).trans (congrArg (aa _) (funext fun xs=>(qM _ _).trans (congrArg (aa _) (funext fun x=>(lG _ _).trans (congrArg (And _) (by
   show br (aW xs x).isSome (aa (aW xs x) fun x=>(Q x H).P) (Q .none H).P=_
   induction aW xs x using Option.casesOn<;>rfl))))))))
 | _=>exact qL _ _ _ _ _
noncomputable def GP(v:V)(H:MH)(Q:QW):W:=match v with
 | .str s=>bV (small s.length) (Q (.int s.length) H)
 | .tup xs=>bV (small xs.length) (Q (.int xs.length) H)
 | .ref a=>jb H a fun xs=>bV (small xs.length) (Q (.int xs.length) H)
 | v=>gC (rW tab v H) Q
theorem TG(v:V)(H:MH)(Q:QW):(GP v H Q).P=rW tab v H fun v h=>(Q v h).P:=by
 induction v using V.casesOn with
 | str s=>exact iZ _ _
 | tup xs=>exact iZ _ _
 | ref a=>exact (jE _ _ _).trans (congrArg (aa _) (funext fun xs=>iZ _ _))
 | _=>rfl
noncomputable def ur(t:String)(isStr:Bool)(H:MH)(Q:QW):W:=match t=="str" with
 | true=>Q (.bool isStr) H
 | false=>dZ (t=="tuple") (Q (.bool !isStr) H)
theorem GQ(t:String)(isStr:Bool)(H:MH)(Q:QW):(ur t isStr H Q).P=pN t isStr H fun v h=>(Q v h).P:=by
 unfold ur pN
 induction t=="str" using Bool.casesOn with
 | true=>rfl
 | false=>exact (gU _ _).trans (congrArg (· ∧_) (propext beq_iff_eq))
noncomputable def GR(v w:V)(H:MH)(Q:QW):W:=match v with
 | .ref a=>match w with
  | .con (.ref c)=> .obj H a fun o=>match o with
   | .inst k _=>dZ (Nat.beq k c) (Q (.bool true) H)
   | _=> .fals
  | _=> .fals
 | .str s=>match w with
  | .con (.type t)=>ur t true H Q
  | .con (.ref c)=>dZ (tab.cls c).isSome (Q (.bool false) H)
  | _=> .fals
 | .tup xs=>match w with
  | .con (.type t)=>ur t false H Q
  | _=> .fals
 | _=>gC (fun q=>aa (lY w) fun u=>rY tab v H q u) Q
theorem TJ(v w:V)(H:MH)(Q:QW):(GR v w H Q).P=aa (lY w) fun u=>rY tab v H (fun v h=>(Q v h).P) u:=by
 induction v using V.casesOn with
 | ref a=>induction w using V.casesOn with
  | con u=>induction u using PySem.Value.casesOn with
   | ref c=>
    show aa (H a) _=aa (vP (H a)) _
    induction H a using Option.casesOn with
    | none=>rfl
    | some o=>induction o using Mine.O.casesOn with
     | inst k fs=>exact (gU _ _).trans (congrArg (· ∧_) (propext ⟨Nat.eq_of_beq_eq_true,fun e=>e▸Nat.beq_refl k⟩))
     | _=>rfl
   | _=>rfl
  | _=>rfl
 | str s=>induction w using V.casesOn with
  | con u=>induction u using PySem.Value.casesOn with
   | ref c=>exact gU _ _
   | type t=>exact GQ _ _ _ _
   | _=>rfl
  | _=>rfl
 | tup xs=>induction w using V.casesOn with
  | con u=>induction u using PySem.Value.casesOn with
   | type t=>exact GQ _ _ _ _
   | _=>rfl
  | _=>rfl
 | _=>rfl
noncomputable def bW(hd:Option Nat)(id:String)(vs:List V)(H:MH)(Q:QW):W:=match id=="len" with
 | true=>oX vs fun v=>GP v H Q
 | false=>match id=="isinstance" with
  | true=>xW vs fun v w=>GR v w H Q
  | false=>gC (bP hd id vs H) Q
theorem TP(hd:Option Nat)(id:String)(vs:List V)(H:MH)(Q:QW):(bW hd id vs H Q).P=nJ tab hd id vs H fun v h=>(Q v h).P:=by
 unfold bW
 induction e:id=="len" using Bool.casesOn with
 | true=>exact (qM _ _).trans (Eq.symm ((congrArg (fun b=>br b _ _) e).trans (congrArg (aa _) (funext fun v=>(TG _ _ _).symm))))
 | false=>induction e':id=="isinstance" using Bool.casesOn with
  | true=>exact (Gr _ _).trans (Eq.symm ((congrArg (fun b=>br b _ _) e).trans (congrArg (aa _) (funext fun p=>(congrArg (fun b=>br b _ _) e').trans (TJ _ _ _ _).symm))))
  | false=>exact Gp _ _ _ _ _
noncomputable def GX(t:String)(vs:List V)(H:MH)(Q:QW):W:=oX vs fun v=>match t=="str" with
 | true=>iu v fun i=>bV (decide (i.natAbs<10000000000)) (Q (.str (eF i)) H)
 | false=> .need (t="tuple") (j6 v fun a=>jb H a fun xs=>bV (small xs.length) (Q (.tup xs) H))
theorem TQ(t:String)(vs:List V)(H:MH)(Q:QW):(GX t vs H Q).P=rZ t vs H fun v h=>(Q v h).P:=by
 refine (qM _ _).trans (congrArg (aa _) (funext fun v=> ?_))
 dsimp only
 induction t=="str" using Bool.casesOn with
 | true=>exact (jc _ _).trans (congrArg (aa _) (funext fun i=>jD _ _))
 | false=>exact congrArg (And _) ((lK _ _).trans (congrArg (aa _) (funext fun a=>(jE _ _ _).trans (congrArg (aa _) (funext fun xs=>iZ _ _)))))
noncomputable def yh(H:MH)(rng:Bool)(v:V)(K:List V→(MH→Prop)→W):W:=match rng with
 | true=>iu v fun n=>bV (decide (0≤n∧n≤1000)) (K ((List.range n.toNat).map fun k:Nat=>V.int (k:Int)) fun zz=>True)
 | false=>match v with
  | .ref a=>jb H a fun xs=>K xs fun H'=>H' a=some (.list xs)
  | .tup xs=>K xs fun zz=>True
  | _=> .fals
theorem GZ(H:MH)(rng:Bool)(v:V)(K:List V→(MH→Prop)→W):(yh H rng v K).P=aa (fO H rng v) fun p=>(K p.1 p.2).P:=by
 induction rng using Bool.casesOn with
 | true=>exact cH (jc _ _) ((gD _ _ _).trans (congrArg (aa _) (funext fun k=>cH (lJ _ _ _) (jD _ _))))
 | false=>induction v using V.casesOn with
  | ref a=>exact cH (jE _ _ _) (lH _ _ _)
  | _=>rfl
theorem cF(H:MH)(a:Nat)(o:O):(H.upd a o) a=some o:=if_pos rfl
theorem d7(H:MH){a b:Nat}(o:O)(h:b≠a):(H.upd a o) b=H b:=if_neg h
structure eO(C:aO)(N:Nat)(hd:Option Nat)(c:X)(body:List St)(E:ES)(n:Nat)(loc:Loc)(H:MH)(Q:QS):Prop where
 h:pR (fun l h q=>wc tab C hd c l h (fun q'=>we tab C hd c l h q' (dm E l)) q (dm E l)) (fun l h q=>b8 tab C N hd body l h q E) Q n loc H
structure cT(C:aO)(N:Nat)(hd:Option Nat)(t:Tgt)(body:List St)(src:MH→Prop)(items:List V)(loc:Loc)(H:MH)(Q:QS):Prop where
 h:pQ src (fun w l h q=>wt tab C hd t w l h (fun l' h'=>b8 tab C N hd body l' h' q jP) eG) Q items loc H
structure iw(C:aO)(hd:Option Nat)(elt:X)(x:String)(ifs:List X)(src:MH→Prop)(loc:Loc)(items acc:List V)(H:MH)(Q:List V→MH→Prop):Prop where
 h:nP src (fun w h q=>iT tab C hd true ifs (put loc x w) h (sI (fun h2 q2=>we tab C hd elt (put loc x w) h2 q2 eG) q) eG) Q items acc H
structure yj(x a b:String)(loc:Loc)(H:MH)(Q:QS):Prop where
 h:vZ x a b loc H Q
theorem G3(x a b:String)(loc:Loc)(H:MH)(Q:QS):yj x a b loc H Q=vZ x a b loc H Q:=propext ⟨fun ⟨h⟩=>h,fun h=>⟨h⟩⟩
theorem yl(C:aO)(N:Nat)(hd:Option Nat)(c:X)(body:List St)(E:ES)(n:Nat)(loc:Loc)(H:MH)(Q:QS):eO C N hd c body E n loc H Q=pR (fun l h q=>wc tab C hd c l h (fun q'=>we tab C hd c l h q' (dm E l)) q (dm E l)) (fun l h q=>b8 tab C N hd body l h q E) Q n loc H:=propext ⟨fun ⟨h⟩=>h,fun h=>⟨h⟩⟩
theorem ut(C:aO)(N:Nat)(hd:Option Nat)(t:Tgt)(body:List St)(src:MH→Prop)(items:List V)(loc:Loc)(H:MH)(Q:QS):cT C N hd t body src items loc H Q=pQ src (fun w l h q=>wt tab C hd t w l h (fun l' h'=>b8 tab C N hd body l' h' q jP) eG) Q items loc H:=propext ⟨fun ⟨h⟩=>h,fun h=>⟨h⟩⟩
theorem qP(C:aO)(hd:Option Nat)(elt:X)(x:String)(ifs:List X)(src:MH→Prop)(loc:Loc)(items acc:List V)(H:MH)(Q:List V→MH→Prop):iw C hd elt x ifs src loc items acc H Q=nP src (fun w h q=>iT tab C hd true ifs (put loc x w) h (sI (fun h2 q2=>we tab C hd elt (put loc x w) h2 q2 eG) q) eG) Q items acc H:=propext ⟨fun ⟨h⟩=>h,fun h=>⟨h⟩⟩
theorem fW{C:aO}{N:Nat}{hd:Option Nat}{t:Tgt}{body:List St}{src:MH→Prop}{loc:Loc}{H:MH}{Q:QS}(hs:src H)(h:Q .next loc H):cT C N hd t body src [] loc H Q:=by rw [ut];exact ⟨hs,h⟩
theorem uv{C:aO}{hd:Option Nat}{elt:X}{x:String}{ifs:List X}{src:MH→Prop}{loc:Loc}{acc:List V}{H:MH}{Q:List V→MH→Prop}(hs:src H)(h:Q acc H):iw C hd elt x ifs src loc [] acc H Q:=by rw [qP];exact ⟨hs,h⟩
section
variable(C:aO)(bi:Bool)(hd:Option Nat)
noncomputable def ym(f:V)(vs:List V)(H:MH)(Q:QW)(E:EW):W:=match f with
 | .con w=>match w with
  | .builtin id=>match bi with
   | true=>bW hd id vs H Q
   | false=>val (fun q e=>C hd (.con (.builtin id)) vs H q e) Q E
  | .type t=>match bi with
   | true=>GX t vs H Q
   | false=>val (fun q e=>C hd (.con (.type t)) vs H q e) Q E
  | w=>val (fun q e=>C hd (.con w) vs H q e) Q E
 | f=>val (fun q e=>C hd f vs H q e) Q E
noncomputable def G4(c:Cal)(vs:List V)(H:MH)(Q:QW)(E:EW):W:=match c with
 | .fn f first=>ym C bi hd f (first++vs) H Q E
 | .bm m self=>GK m self vs H Q
noncomputable def G5(H:MH)(v:V)(n:String)(K:Cal→W):W:=match v with
 | .ref a=> .obj H a fun o=>qK (zP tab v n o) K
 | v=>qK (jl tab H v n) K
noncomputable def uw(v:V)(K:Bool→W):W:=match v with
 | .bool b=>K b
 | _=> .fals
noncomputable def Yu(w:MH→QW→W)(q:Option V→MH→W)(t:Bool)(H:MH):W:= .br t (w H fun y H4=>q (some y) H4) (q none H)
noncomputable def yo(isAnd b:Bool)(A B:W):W:=match isAnd with
 | true=> .br b A B
 | false=> .br b B A
mutual
noncomputable def bj:X→Loc→MH→QW→EW→W
 | .k v,_,H,Q,_=>Q v H
 | .loc x,loc,H,Q,_=> .optv (cR loc x) fun v=>Q v H
 | .attr e n,loc,H,Q,E=>bj e loc H (fun v H=>yf H v n fun w=>Q w H) E
 | .call f args,loc,H,Q,E=>bj f loc H (fun f H1=>oY args loc H1 (fun vs H2=>ym C bi hd f vs H2 Q E) E) E
 | .meth o n args,loc,H,Q,E=>bj o loc H (fun o H1=>G5 H1 o n fun c=>oY args loc H1 (fun vs H2=>G4 C bi hd c vs H2 Q E) E) E
 | .bin op a b,loc,H,Q,E=>bj a loc H (fun x H1=>bj b loc H1 (fun y H2=>Gu op x y H2 Q) E) E
 | .not e,loc,H,Q,E=>bj e loc H (fun v H=>uw v fun b=>Q (.bool !b) H) E
 | .neg e,loc,H,Q,E=>bj e loc H (fun v H=>iu v fun i=>Q (.int (-i)) H) E
 | .bop isAnd es,loc,H,Q,E=>yq isAnd es loc H Q E
 | .cmp a op b,loc,H,Q,E=>bj a loc H (fun x H1=>bj b loc H1 (fun y H2=>um op x y H2 fun r h=>Q (.bool r) h) E) E
 | .cmp2 _ _ _ _ _,_,_,_,_=> .fals
 | .ite c a b,loc,H,Q,E=>j7 c loc H (fun q=>bj c loc H q E) (fun t h=> .br t (bj a loc h Q E) (bj b loc h Q E)) E
 | .list es,loc,H,Q,E=>dZ (pL es.length) (oY es loc H (fun vs H=>xT H (.list vs) Q) E)
 | .tup es,loc,H,Q,E=>dZ (pL es.length) (oY es loc H (fun vs H=>Q (.tup vs) H) E)
 | .dict ks vs,_,H,Q,_=>dZ (vW ks vs) (xT H (.dict (ks.zip vs)) Q)
 | .sub a i,loc,H,Q,E=>bj a loc H (fun x H1=>bj i loc H1 (fun y H2=>Gx H2 x y Q) E) E
 | .slice a lo hi,loc,H,Q,E=>bj a loc H (fun x H1=>bj lo loc H1 (fun l H2=>bj hi loc H2 (fun h H3=>GC x l h H3 Q) E) E) E
 | .comp elt x rng it ifs,loc,H,Q,E=>bj it loc H (fun v H1=>yh H1 rng v fun xs src=>bV (small xs.length) (gC (fun q=>iw C hd elt x ifs src loc xs [] H1 (newL q)) Q)) E
noncomputable def oY:List X→Loc→MH→(List V→MH→W)→EW→W
 | [],_,H,Q,_=>Q [] H
 | e::r,loc,H,Q,E=>bj e loc H (fun v H1=>oY r loc H1 (fun vs H2=>Q (v::vs) H2) E) E
noncomputable def yq(isAnd:Bool):List X→Loc→MH→QW→EW→W
 | [],_,_,_,_=> .fals
 | e::r,loc,H,Q,E=>match r with
  | []=>bj e loc H Q E
  | _::_=>bj e loc H (fun v H=>uw v fun b=>yo isAnd b (yq isAnd r loc H Q E) (Q v H)) E
noncomputable def j7:X→Loc→MH→(QW→W)→QB→EW→W
 | .not e,loc,H,_,Q,E=>j7 e loc H (fun q=>bj e loc H q E) (fun b h=>Q (!b) h) E
 | .bop isAnd es,loc,H,_,Q,E=>qQ isAnd es loc H Q E
 | .ite c a b,loc,H,_,Q,E=>j7 c loc H (fun q=>bj c loc H q E) (fun t h=> .br t (j7 a loc h (fun q=>bj a loc h q E) Q E) (j7 b loc h (fun q=>bj b loc h q E) Q E)) E
 | .cmp2 a op b op' c,loc,H,_,Q,E=>bj a loc H (fun x H1=>bj b loc H1 (fun y H2=>um op x y H2 fun r H=> .br r (bj c loc H (fun z H4=>um op' y z H4 Q) E) (Q false H)) E) E
 | _,_,_,whole,Q,_=>whole fun v H=>uw v fun b=>Q b H
noncomputable def qQ(isAnd:Bool):List X→Loc→MH→QB→EW→W
 | [],_,H,Q,_=>Q isAnd H
 | e::r,loc,H,Q,E=>j7 e loc H (fun q=>bj e loc H q E) (fun b h=>yo isAnd b (qQ isAnd r loc h Q E) (Q b h)) E
end
noncomputable def ux(t:Tgt)(v:V)(loc:Loc)(H:MH)(Q:Loc→MH→W)(E:EW):W:=match t with
 | .name x=>Q (bu loc x v) H
 | .attr o n=>bj C bi hd o loc H (fun ov H=>yg H ov n v (Q loc)) E
 | .sub o i=>bj C bi hd o loc H (fun ov H1=>bj C bi hd i loc H1 (fun iv H2=>GJ H2 ov iv v (Q loc)) E) E
 | .names xs=>match v with
  | .tup vs=>dZ (Nat.beq vs.length xs.length) (Q (gR xs vs loc) H)
  | .ref a=>jb H a fun vs=>dZ (Nat.beq vs.length xs.length) (Q (gR xs vs loc) H)
  | _=> .fals
end
noncomputable def uy(op:Bop)(a b:V)(H:MH)(K:V→MH→W):W:=iu a fun x=>iu b fun y=>qK (zV op x y) fun z=>K (.int z) H
section
variable(C:aO)(bi:Bool)(N:Nat)
noncomputable def G6(S:QS→Prop)(Q:QL):W:= .stop (fun q zz=>S q) Q fun zz zz zz=> .fals
noncomputable def G7(cls:Nat)(name:Option String)(w:Nat→Loc→MH→QL→EL→W)(Q:QL)(E:EL):EL:=fun x l h=> .obj h x fun o=>match o with
 | .exc c _=>dZ (Nat.beq c cls) (match name with
  | none=>w x l h Q E
  | some n=>w x (bu l n (.ref x)) h (fun fl l h=>Q fl (del l n) h) (fun y l h=>E y (del l n) h))
 | _=> .fals
noncomputable def yr(K:Loc→MH→W):QL:=fun fl l h=>match fl with
 | .next=>K l h
 | _=> .fals
mutual
noncomputable def G8(hd:Option Nat):St→Loc→MH→QL→EL→W
 | .expr e,loc,H,Q,E=>bj C bi hd e loc H (fun zz H=>Q .next loc H) (fun x H=>E x loc H)
 | .assign t e,loc,H,Q,E=>bj C bi hd e loc H (fun v H=>ux C bi hd t v loc H (fun l h=>Q .next l h) (fun x H=>E x loc H)) (fun x H=>E x loc H)
 | .augName x op e,loc,H,Q,E=> .optv (cR loc x) fun old=>bj C bi hd e loc H (fun v H=>uy op old v H fun w H=>Q .next (bu loc x w) H) (fun x H=>E x loc H)
 | .augAttr o n op e,loc,H,Q,E=>bj C bi hd o loc H (fun ov H1=>yf H1 ov n fun old=>bj C bi hd e loc H1 (fun v H2=>uy op old v H2 fun w H3=>yg H3 ov n w fun H4=>Q .next loc H4) (fun x H=>E x loc H)) (fun x H=>E x loc H)
 | .ret e,loc,H,Q,E=>bj C bi hd e loc H (fun v H=>Q (.ret v) loc H) (fun x H=>E x loc H)
 | .cond c a b,loc,H,Q,E=>j7 C bi hd c loc H (fun q=>bj C bi hd c loc H q (fun x H=>E x loc H)) (fun t h=> .br t (bA hd a loc h Q E) (bA hd b loc h Q E)) (fun x H=>E x loc H)
 | .loop c body,loc,H,Q,E=> .stop (fun q e=>eO C N hd c body e N loc H q) Q E
 | .each t rng it body,loc,H,Q,E=>bj C bi hd it loc H (fun v H1=>yh H1 rng v fun xs src=>G6 (fun q=>cT C N hd t body src xs loc H1 q) Q) (fun x H=>E x loc H)
 | .cont,loc,H,Q,_=>Q .cont loc H
 | .copyAll x a b,loc,H,Q,_=>G6 (fun q=>yj x a b loc H q) Q
 | .raise e,loc,H,_,E=>bj C bi hd e loc H (fun v H=>j6 v fun a=> .obj H a fun o=>match o with
   | .exc _ _=>match hd with
    | none=>E a loc H
    | some b=> .need (b=a) (E a loc H)
   | _=> .fals) (fun x H=>E x loc H)
 | .tryExc body cls name h,loc,H,Q,E=>bA hd body loc H Q (G7 cls name (fun x l m q e=>bA (some x) h l m q e) Q E)
 | .tryFin body fin,loc,H,Q,E=>bA hd body loc H (fun fl l h=>bA hd fin l h (yr (Q fl)) E) (fun x l h=>bA (some x) fin l h (yr (E x)) (fun zz zz zz=> .fals))
noncomputable def bA(hd:Option Nat):List St→Loc→MH→QL→EL→W
 | [],loc,H,Q,_=>Q .next loc H
 | s::r,loc,H,Q,E=>G8 hd s loc H (fun fl l h=>match fl with
  | .next=>bA hd r l h Q E
  | .cont=>Q .cont l h
  | .ret v=>Q (.ret v) l h) E
end
end
set_option linter.unusedVariables false
theorem jd{α:Type}(F:(α→Prop)→Prop){q q':α→Prop}(h:∀a,q a=q' a):F q=F q':=congrArg F (funext h)
theorem aX{α β:Type}(F:(α→β→Prop)→Prop){q q':α→β→Prop}(h:∀a b,q a b=q' a b):F q=F q':=congrArg F (funext fun a=>funext (h a))
theorem uz{α β γ:Type}(F:(α→β→γ→Prop)→Prop){q q':α→β→γ→Prop}(h:∀a b c,q a b c=q' a b c):F q=F q':=congrArg F (funext fun a=>funext fun b=>funext (h a b))
theorem TV(F:QS→ES→Prop){q q':QS}{e e':ES}(h:∀fl l h,q fl l h=q' fl l h)(k:∀x l h,e x l h=e' x l h):F q e=F q' e':=by
 rw [show q=q' from funext fun fl=>funext fun l=>funext (h fl l),show e=e' from funext fun x=>funext fun l=>funext (k x l)]
noncomputable def Bi(C:aO)(bi:Bool):Prop:=bi=true→(∀hd id vs H Q E,C hd (.con (.builtin id)) vs H Q E=nJ tab hd id vs H Q)∧∀hd t vs H Q E,C hd (.con (.type t)) vs H Q E=rZ t vs H Q
theorem lL{b:Bool}{A B A' B':Prop}(h:A=A')(k:B=B'):br b A B=br b A' B':=by rw [h,k]
theorem Yv(b:Bool)(A B:W):(W.br b A B).P=br b A.P B.P:=rfl
theorem fB(v:V)(K:Bool→W):(uw v K).P=aa (kZ v) fun b=>(K b).P:=by induction v using V.casesOn<;>rfl
theorem G9(isAnd b:Bool)(A B:W):(yo isAnd b A B).P=br (b==isAnd) A.P B.P:=by induction isAnd using Bool.casesOn<;>induction b using Bool.casesOn<;>rfl
theorem TX(H:MH)(v:V)(n:String)(K:Cal→W):(G5 H v n K).P=aa (jl tab H v n) fun c=>(K c).P:=by
 induction v using V.casesOn with
 | ref a=>
  refine Eq.trans ?_ (gD (H a) _ _).symm
  exact jd (aa (H a)) fun o=>j5 _ _
 | none=>exact j5 (jl tab H .none n) K
 | bool b=>exact j5 (jl tab H (.bool b) n) K
 | int b=>exact j5 (jl tab H (.int b) n) K
 | str b=>exact j5 (jl tab H (.str b) n) K
 | tup b=>exact j5 (jl tab H (.tup b) n) K
 | con b=>exact j5 (jl tab H (.con b) n) K
section
variable{C:aO}{bi:Bool}(hB:Bi C bi)(hd:Option Nat)
include hB
theorem Ha(f:V)(vs:List V)(H:MH)(Q:QW)(E:EW):(ym C bi hd f vs H Q E).P=C hd f vs H (fun v h=>(Q v h).P) (fun x h=>(E x h).P):=by
 induction f using V.casesOn with
 | con w=>induction w using PySem.Value.casesOn with
  | builtin id=>induction bi using Bool.casesOn with
   | true=>exact (TP _ _ _ _ _).trans ((hB rfl).1 _ _ _ _ _ _).symm
   | false=>rfl
  | type t=>induction bi using Bool.casesOn with
   | true=>exact (TQ _ _ _ _).trans ((hB rfl).2 _ _ _ _ _ _).symm
   | false=>rfl
  | _=>rfl
 | _=>rfl
theorem TY(c:Cal)(vs:List V)(H:MH)(Q:QW)(E:EW):(G4 C bi hd c vs H Q E).P=zZ C hd c vs H (fun v h=>(Q v h).P) (fun x h=>(E x h).P):=by
 induction c using Cal.casesOn with
 | fn f first=>exact Ha hB hd _ _ _ _ _
 | bm m self=>exact TF _ _ _ _ _
mutual
theorem bw:∀(e:X) (loc:Loc) (H:MH) (Q:QW) (E:EW),(bj C bi hd e loc H Q E).P=we tab C hd e loc H (fun v h=>(Q v h).P) (fun x h=>(E x h).P)
 | .k _,_,_,_,_=>rfl
 | .loc x,loc,H,Q,_=>congrArg (fun o=>aa o fun v=>(Q v H).P) (lF x loc)
 | .attr e n,loc,H,Q,E=>(bw e loc H _ E).trans (aX (fun q=>we tab C hd e loc H q _) fun v h=>GD h v n _)
 | .call f args,loc,H,Q,E=>(bw f loc H _ E).trans (aX (fun q=>we tab C hd f loc H q _) fun v h=>(qR args loc h _ E).trans (aX (fun q=>gm tab C hd args loc h q _) fun vs h=>Ha hB hd _ _ _ _ _))
 | .meth o n args,loc,H,Q,E=>(bw o loc H _ E).trans (aX (fun q=>we tab C hd o loc H q _) fun v h=>(TX h v n _).trans (jd (aa _) fun c=>(qR args loc h _ E).trans (aX (fun q=>gm tab C hd args loc h q _) fun vs h=>TY hB hd _ _ _ _ _)))
 | .bin op a b,loc,H,Q,E=>(bw a loc H _ E).trans (aX (fun q=>we tab C hd a loc H q _) fun x h=>(bw b loc h _ E).trans (aX (fun q=>we tab C hd b loc h q _) fun y h=>Tu op x y h Q))
 | .not e,loc,H,Q,E=>(bw e loc H _ E).trans (aX (fun q=>we tab C hd e loc H q _) fun v h=>fB v _)
 | .neg e,loc,H,Q,E=>(bw e loc H _ E).trans (aX (fun q=>we tab C hd e loc H q _) fun v h=>jc v _)
 | .bop isAnd es,loc,H,Q,E=>Hb isAnd es loc H Q E
 | .cmp a op b,loc,H,Q,E=>(bw a loc H _ E).trans (aX (fun q=>we tab C hd a loc H q _) fun x h=>(bw b loc h _ E).trans (aX (fun q=>we tab C hd b loc h q _) fun y h=>xZ op x y h _))
 | .cmp2 _ _ _ _ _,_,_,_,_=>rfl
 | .ite c a b,loc,H,Q,E=>(lM c loc H _ _ _ E fun q=>bw c loc H q E).trans (aX (fun q=>wc tab C hd c loc H _ q _) fun t h=>lL (bw a loc h Q E) (bw b loc h Q E))
 | .list es,loc,H,Q,E=>(gU _ _).trans (congrArg (And _) (qR es loc H _ E))
 | .tup es,loc,H,Q,E=>(gU _ _).trans (congrArg (And _) (qR es loc H _ E))
 | .dict _ _,_,_,_,_=>gU _ _
 | .sub a i,loc,H,Q,E=>(bw a loc H _ E).trans (aX (fun q=>we tab C hd a loc H q _) fun x h=>(bw i loc h _ E).trans (aX (fun q=>we tab C hd i loc h q _) fun y h=>Tv h x y Q))
 | .slice a lo hi,loc,H,Q,E=>(bw a loc H _ E).trans (aX (fun q=>we tab C hd a loc H q _) fun x h=>(bw lo loc h _ E).trans (aX (fun q=>we tab C hd lo loc h q _) fun l h=>(bw hi loc h _ E).trans (aX (fun q=>we tab C hd hi loc h q _) fun y h=>Tw x l y h Q)))
 | .comp elt x rng it ifs,loc,H,Q,E=>(bw it loc H _ E).trans (aX (fun q=>we tab C hd it loc H q _) fun v h=>(GZ h rng v _).trans (jd (aa _) fun p=>(iZ _ _).trans (congrArg (And _) (qP C hd elt x ifs p.2 loc p.1 [] h _))))
theorem qR:∀(es:List X) (loc:Loc) (H:MH) (Q:List V→MH→W) (E:EW),(oY C bi hd es loc H Q E).P=gm tab C hd es loc H (fun v h=>(Q v h).P) (fun x h=>(E x h).P)
 | [],_,_,_,_=>rfl
 | e::r,loc,H,Q,E=>(bw e loc H _ E).trans (aX (fun q=>we tab C hd e loc H q _) fun v h=>qR r loc h _ E)
theorem Hb(isAnd:Bool):∀(es:List X) (loc:Loc) (H:MH) (Q:QW) (E:EW),(yq C bi hd isAnd es loc H Q E).P=sJ tab C hd isAnd es loc H (fun v h=>(Q v h).P) (fun x h=>(E x h).P)
 | [],_,_,_,_=>rfl
 | [e],loc,H,Q,E=>bw e loc H Q E
 | e::e2::r,loc,H,Q,E=>(bw e loc H _ E).trans (aX (fun q=>we tab C hd e loc H q _) fun v h=>(fB v _).trans (jd (aa _) fun b=>(G9 _ _ _ _).trans (lL (Hb isAnd (e2::r) loc h Q E) rfl)))
theorem lM:∀(e:X) (loc:Loc) (H:MH) (w:QW→W) (w':Q1→Prop) (Q:QB) (E:EW),(∀q,(w q).P=w' fun v h=>(q v h).P)→(j7 C bi hd e loc H w Q E).P=wc tab C hd e loc H w' (fun b h=>(Q b h).P) (fun x h=>(E x h).P)
 | .not e,loc,H,_,_,Q,E,_=>lM e loc H _ _ _ E fun q=>bw e loc H q E
 | .bop isAnd es,loc,H,_,_,Q,E,_=>uA isAnd es loc H Q E
 | .ite c a b,loc,H,_,_,Q,E,_=>(lM c loc H _ _ _ E fun q=>bw c loc H q E).trans (aX (fun q=>wc tab C hd c loc H _ q _) fun t h=>lL (lM a loc h _ _ Q E fun q=>bw a loc h q E) (lM b loc h _ _ Q E fun q=>bw b loc h q E))
 | .cmp2 a op b op' c,loc,H,_,_,Q,E,_=>(bw a loc H _ E).trans (aX (fun q=>we tab C hd a loc H q _) fun x h=>(bw b loc h _ E).trans (aX (fun q=>we tab C hd b loc h q _) fun y h=>(xZ op x y h _).trans (aX (fun q=>jo op x y h q) fun r h=>lL ((bw c loc h _ E).trans (aX (fun q=>we tab C hd c loc h q _) fun z h=>xZ op' y z h Q)) rfl)))
 | .k _,_,_,_,w',Q,_,hw=>(hw _).trans (aX w' fun v h=>fB v _)
 | .loc _,_,_,_,w',Q,_,hw=>(hw _).trans (aX w' fun v h=>fB v _)
 | .attr _ _,_,_,_,w',Q,_,hw=>(hw _).trans (aX w' fun v h=>fB v _)
 | .call _ _,_,_,_,w',Q,_,hw=>(hw _).trans (aX w' fun v h=>fB v _)
 | .meth _ _ _,_,_,_,w',Q,_,hw=>(hw _).trans (aX w' fun v h=>fB v _)
 | .bin _ _ _,_,_,_,w',Q,_,hw=>(hw _).trans (aX w' fun v h=>fB v _)
 | .neg _,_,_,_,w',Q,_,hw=>(hw _).trans (aX w' fun v h=>fB v _)
 | .cmp _ _ _,_,_,_,w',Q,_,hw=>(hw _).trans (aX w' fun v h=>fB v _)
 | .list _,_,_,_,w',Q,_,hw=>(hw _).trans (aX w' fun v h=>fB v _)
 | .tup _,_,_,_,w',Q,_,hw=>(hw _).trans (aX w' fun v h=>fB v _)
 | .dict _ _,_,_,_,w',Q,_,hw=>(hw _).trans (aX w' fun v h=>fB v _)
 | .sub _ _,_,_,_,w',Q,_,hw=>(hw _).trans (aX w' fun v h=>fB v _)
 | .slice _ _ _,_,_,_,w',Q,_,hw=>(hw _).trans (aX w' fun v h=>fB v _)
 | .comp _ _ _ _ _,_,_,_,w',Q,_,hw=>(hw _).trans (aX w' fun v h=>fB v _)
theorem uA(isAnd:Bool):∀(es:List X) (loc:Loc) (H:MH) (Q:QB) (E:EW),(qQ C bi hd isAnd es loc H Q E).P=iT tab C hd isAnd es loc H (fun b h=>(Q b h).P) (fun x h=>(E x h).P)
 | [],_,_,_,_=>rfl
 | e::r,loc,H,Q,E=>(lM e loc H _ _ _ E fun q=>bw e loc H q E).trans (aX (fun q=>wc tab C hd e loc H _ q _) fun b h=>(G9 _ _ _ _).trans (lL (uA isAnd r loc h Q E) rfl))
end
theorem yt(t:Tgt)(v:V)(loc:Loc)(H:MH)(Q:Loc→MH→W)(E:EW):(ux C bi hd t v loc H Q E).P=wt tab C hd t v loc H (fun l h=>(Q l h).P) (fun x h=>(E x h).P):=by
 induction t using Tgt.casesOn with
 | name x=>exact congrArg (fun l=>(Q l H).P) (jC x v loc)
 | attr o n=>exact (bw hB hd o loc H _ E).trans (aX (fun q=>we tab C hd o loc H q _) fun v h=>GF _ _ _ _ _)
 | sub o i=>exact (bw hB hd o loc H _ E).trans (aX (fun q=>we tab C hd o loc H q _) fun ov h=>(bw hB hd i loc h _ E).trans (aX (fun q=>we tab C hd i loc h q _) fun iv h=>Tz _ _ _ _ _))
 | names xs=>
  have e:∀n m:Nat,(Nat.beq n m=true)=(n=m):=fun n m=>propext ⟨Nat.eq_of_beq_eq_true,fun e=>e▸Nat.beq_refl n⟩
  induction v using V.casesOn with
  | tup vs=>exact (gU _ _).trans (congr (congrArg And (e _ _)) (congrArg (fun l=>(Q l H).P) (xR xs vs loc)))
  | ref a=>exact (jE _ _ _).trans (jd (aa _) fun vs=>(gU _ _).trans (congr (congrArg And (e _ _)) (congrArg (fun l=>(Q l H).P) (xR xs vs loc))))
  | _=>rfl
end
theorem Hc(op:Bop)(a b:V)(H:MH)(K:V→MH→W):(uy op a b H K).P=nM op a b H fun w h=>(K w h).P:=
 (jc _ _).trans (jd (aa _) fun x=>(jc _ _).trans (jd (aa _) fun y=>j5 _ _))
theorem T3(hd:Option Nat)(a:Nat)(h:MH)(w:W):(W.obj h a fun o=>match o with
   | .exc _ _=>match hd with
    | none=>w
    | some b=> .need (b=a) w
   | _=> .fals).P=aa (excO (h a)) fun zz=>hd.getD a=a∧w.P:=by
 show aa (h a) _=_
 induction h a using Option.casesOn with
 | none=>rfl
 | some o=>induction o using Mine.O.casesOn with
  | exc c fs=>induction hd using Option.casesOn with
   | none=>exact propext ⟨fun h=>⟨rfl,h⟩,fun h=>h.2⟩
   | some b=>rfl
  | _=>rfl
theorem T5(cls:Nat)(name:Option String)(w:Nat→Loc→MH→QL→EL→W)(w':Nat→Loc→MH→QS→ES→Prop)(Q:QL)(E:EL)(x:Nat)(l:Loc)(h:MH)(hw:∀(q:QL) (e:EL) (l:Loc),(w x l h q e).P=w' x l h (fun fl l h=>(q fl l h).P) fun x l h=>(e x l h).P):
  (G7 cls name w Q E x l h).P=z8 cls name w' (fun fl l h=>(Q fl l h).P) (fun x l h=>(E x l h).P) x l h:=by
 show aa (h x) _=aa (excO (h x)) _
 induction h x using Option.casesOn with
 | none=>rfl
 | some o=>induction o using Mine.O.casesOn with
  | exc c fs=>
   refine (gU _ _).trans (congr (congrArg And (propext ⟨Nat.eq_of_beq_eq_true,fun e=>e▸Nat.beq_refl c⟩)) ?_)
   induction name using Option.casesOn with
   | none=>exact hw _ _ _
   | some n=>exact (congrArg (fun l=>(w x l h (fun fl l h=>Q fl (del l n) h) fun y l h=>E y (del l n) h).P) (jC n (.ref x) l)).trans (hw _ _ _)
  | _=>rfl
theorem Hd(K:Loc→MH→W):(fun fl l h=>(yr K fl l h).P)=sO fun l h=>(K l h).P:=by
 funext fl l h
 induction fl using Flow.casesOn<;>rfl
section
variable{C:aO}{bi:Bool}(hB:Bi C bi)(N:Nat)
include hB
mutual
theorem T6(hd:Option Nat):∀(s:St) (loc:Loc) (H:MH) (Q:QL) (E:EL),(G8 C bi N hd s loc H Q E).P=ws tab C N hd s loc H (fun fl l h=>(Q fl l h).P) (fun x l h=>(E x l h).P)
 | .expr e,loc,H,Q,E=>bw hB hd e loc H _ _
 | .assign t e,loc,H,Q,E=>(bw hB hd e loc H _ _).trans (aX (fun q=>we tab C hd e loc H q _) fun v h=>yt hB hd t v loc h _ _)
 | .augName x op e,loc,H,Q,E=>(congrArg (fun o=>aa o fun old=>(bj C bi hd e loc H (fun v H=>uy op old v H fun w H=>Q .next (bu loc x w) H) fun x H=>E x loc H).P) (lF x loc)).trans (jd (aa (get loc x)) fun old=>(bw hB hd e loc H _ _).trans (aX (fun q=>we tab C hd e loc H q _) fun v h=>(Hc op old v h _).trans (aX (nM op old v h) fun w h=>congrArg (fun l=>(Q .next l h).P) (jC x w loc))))
 | .augAttr o n op e,loc,H,Q,E=>(bw hB hd o loc H _ _).trans (aX (fun q=>we tab C hd o loc H q _) fun ov h=>(GD h ov n _).trans (jd (aa _) fun old=>(bw hB hd e loc h _ _).trans (aX (fun q=>we tab C hd e loc h q _) fun v h=>(Hc op old v h _).trans (aX (nM op old v h) fun w h'=>GF _ _ _ _ _))))
 | .ret e,loc,H,Q,E=>bw hB hd e loc H _ _
 | .cond c a b,loc,H,Q,E=>(lM hB hd c loc H _ _ _ _ fun q=>bw hB hd c loc H q _).trans (aX (fun q=>wc tab C hd c loc H _ q _) fun t h=>lL (iy hd a loc h Q E) (iy hd b loc h Q E))
 | .loop c body,loc,H,Q,E=>yl C N hd c body _ N loc H _
 | .each t rng it body,loc,H,Q,E=>(bw hB hd it loc H _ _).trans (aX (fun q=>we tab C hd it loc H q _) fun v h=>(GZ h rng v _).trans (jd (aa _) fun p=>ut C N hd t body p.2 p.1 loc h _))
 | .cont,loc,H,Q,_=>rfl
 | .copyAll x a b,loc,H,Q,_=>G3 _ _ _ _ _ _
 | .raise e,loc,H,Q,E=>(bw hB hd e loc H _ _).trans (aX (fun q=>we tab C hd e loc H q _) fun v h=>(lK v _).trans (jd (aa _) fun a=>T3 hd a h (E a loc h)))
 | .tryExc body cls name h,loc,H,Q,E=>(iy hd body loc H Q _).trans (uz (fun e=>b8 tab C N hd body loc H _ e) fun x l m=>T5 cls name _ _ Q E x l m fun q e l=>iy (some x) h l m q e)
 | .tryFin body fin,loc,H,Q,E=>(iy hd body loc H _ _).trans (TV (b8 tab C N hd body loc H) (fun fl l h=>(iy hd fin l h _ E).trans (congrArg (fun q=>b8 tab C N hd fin l h q _) (Hd (Q fl)))) fun x l h=>(iy (some x) fin l h _ _).trans (congrArg (fun q=>b8 tab C N (some x) fin l h q jP) (Hd fun l h=>E x l h)))
theorem iy(hd:Option Nat):∀(ss:List St) (loc:Loc) (H:MH) (Q:QL) (E:EL),(bA C bi N hd ss loc H Q E).P=b8 tab C N hd ss loc H (fun fl l h=>(Q fl l h).P) (fun x l h=>(E x l h).P)
 | [],_,_,_,_=>rfl
 | s::r,loc,H,Q,E=>(T6 hd s loc H _ E).trans (uz (fun q=>ws tab C N hd s loc H q _) fun fl l h=>by
  induction fl using Flow.casesOn with
  | next=>exact iy hd r l h Q E
  | _=>rfl)
end
end
noncomputable def cz(Q:Q1):QL:=fun fl zz H=>match fl with
 | .ret v=>dw (Q v H)
 | .next=>dw (Q .none H)
 | .cont=> .fals
noncomputable def cJ(E:E1):EL:=fun x zz H=>dw (E x H)
theorem T7(Q:Q1):(fun fl l h=>(cz Q fl l h).P)=nR Q:=by funext fl l h;induction fl using Flow.casesOn<;>rfl
theorem T8(C:aO):Bi C false:=fun h=>nomatch h
theorem iB{C:aO}{N d:Nat}(hC:C=au tab N (d+1)):Bi C true:=fun zz=>by subst hC;exact ⟨fun zz zz zz zz zz zz=>rfl,fun zz zz zz zz zz zz=>rfl⟩
theorem cu{C C':aO}{hd:Option Nat}{f:V}{vs:List V}{H:MH}{Q:Q1}{E:E1}(hC:C=C')(h:C' hd f vs H Q E):C hd f vs H Q E:=hC▸h
theorem kb{N d:Nat}{bi:Bool}{hd:Option Nat}{a:Nat}{vs:List V}{loc:Loc}{H:MH}{Q:Q1}{E:E1}(fn:Fn)(hB:Bi (au tab N d) bi)
  (hf:tab.fn a=some fn) (hb:jr fn.params fn.dflt vs=some loc)
  (h:∀C,C=au tab N d→(bA C bi N hd fn.body loc H (cz Q) (cJ E)).P):au tab N (d+1) hd (.con (.ref a)) vs H Q E:=by
 show (match tab.fn a with
   | some fn=>aa (jr fn.params fn.dflt vs) fun loc=>b8 tab (au tab N d) N hd fn.body loc H (nR Q) (iU E)
   | none=>_)
 rw [hf]
 have:=h _ rfl
 rw [iy hB N hd,T7] at this
 exact aa.mk hb this
theorem k0{N d:Nat}{hd:Option Nat}{a:Nat}{vs:List V}{loc:Loc}{H:MH}{Q:Q1}{E:E1}(fn:Fn)
  (hf:tab.fn a=some fn) (hb:jr fn.params fn.dflt vs=some loc)
  (h:∀C,C=au tab N d→(bA C false N hd fn.body loc H (cz Q) (cJ E)).P):au tab N (d+1) hd (.con (.ref a)) vs H Q E:=kb fn (T8 _) hf hb h
theorem kf{N d:Nat}{hd:Option Nat}{a:Nat}{vs:List V}{loc:Loc}{H:MH}{Q:Q1}{E:E1}(fn:Fn)
  (hf:tab.fn a=some fn) (hb:jr fn.params fn.dflt vs=some loc)
  (h:∀C,C=au tab N (d+1)→(bA C true N hd fn.body loc H (cz Q) (cJ E)).P):au tab N (d+2) hd (.con (.ref a)) vs H Q E:=kb fn (iB rfl) hf hb h
theorem m6{N d:Nat}{hd:Option Nat}{a:Nat}{vs:List V}{H:MH}{Q:Q1}{E:E1}(c:Cls)
  (hf:tab.fn a=none) (hc:tab.cls a=some c)
  (h:∀x,H x=none→au tab N d hd (.con (.ref c.init)) (.ref x::vs) (H.upd x (iV c.isExc a)) (lZ x Q) E):
  au tab N (d+1) hd (.con (.ref a)) vs H Q E:=by
 show (match tab.fn a with
   | some fn=>_
   | none=>aa (tab.cls a) _)
 rw [hf]
 exact aa.mk hc h
theorem kw{C:aO}{N d:Nat}{hd:Option Nat}{ss:List St}{loc:Loc}{H:MH}{Q:QS}{E:ES}(hC:C=au tab N (d+1))
  (h:(bA C true N hd ss loc H (fun fl l h=>dw (Q fl l h)) (fun x l h=>dw (E x l h))).P):b8 tab C N hd ss loc H Q E:=by
 rw [iy (iB hC) N hd] at h;exact h
theorem Yw{C:aO}{N d:Nat}{hd:Option Nat}{t:Tgt}{v:V}{loc:Loc}{H:MH}{Q:Loc→MH→Prop}{E:E1}(hC:C=au tab N (d+1))
  (h:(ux C true hd t v loc H (fun l h=>dw (Q l h)) (fun x h=>dw (E x h))).P):wt tab C hd t v loc H Q E:=by
 rw [yt (iB hC) hd] at h;exact h
theorem ke{C:aO}{N d:Nat}{hd:Option Nat}{e:X}{loc:Loc}{H:MH}{Q:Q1}{E:E1}(hC:C=au tab N (d+1))
  (h:(bj C true hd e loc H (fun v h=>dw (Q v h)) (fun x h=>dw (E x h))).P):we tab C hd e loc H Q E:=by
 rw [bw (iB hC) hd] at h;exact h
theorem Yx{C:aO}{N d:Nat}{hd:Option Nat}{b:Bool}{es:List X}{loc:Loc}{H:MH}{Q:Bool→MH→Prop}{E:E1}(hC:C=au tab N (d+1))
  (h:(qQ C true hd b es loc H (fun v h=>dw (Q v h)) (fun x h=>dw (E x h))).P):iT tab C hd b es loc H Q E:=by
 rw [uA (iB hC) hd] at h;exact h
noncomputable def m7(go:Loc→MH→Prop)(Q:QS):QL:=fun fl l h=>match fl with
 | .ret w=>dw (Q (.ret w) l h)
 | _=>dw (go l h)
noncomputable def qU:EL:=fun zz zz zz=> .fals
theorem kl{C:aO}{N d n:Nat}{hd:Option Nat}{c:X}{body:List St}{loc:Loc}{H:MH}{Q:QS}{E:ES}(hC:C=au tab N (d+1))
  (h:(j7 C true hd c loc H (fun q=>bj C true hd c loc H q fun x h=>dw (E x loc h)) (fun b h=> .br b (bA C true N hd body loc h (m7 (fun l h=>eO C N hd c body E n l h Q) Q) (fun x l h=>dw (E x l h))) (dw (Q .next loc h))) (fun x h=>dw (E x loc h))).P):eO C N hd c body E (n+1) loc H Q:=by
 rw [yl]
 refine cast ?_ h
 refine (lM (iB hC) hd c loc H _ (fun q=>we tab C hd c loc H q (dm E loc)) _ _ fun q=>bw (iB hC) hd c loc H q _).trans (aX (fun q=>wc tab C hd c loc H _ q (dm E loc)) fun b h=>lL ?_ rfl)
 refine (iy (iB hC) N hd _ _ _ _ _).trans (uz (fun q=>b8 tab C N hd body loc h q _) fun fl l h=> ?_)
 induction fl using Flow.casesOn with
 | ret w=>rfl
 | _=>exact yl C N hd c body E n l h Q
theorem fX{C:aO}{N d:Nat}{hd:Option Nat}{t:Tgt}{body:List St}{src:MH→Prop}{v:V}{r:List V}{loc:Loc}{H:MH}{Q:QS}(hC:C=au tab N (d+1))(hs:src H)
  (h:(ux C true hd t v loc H (fun l h=>bA C true N hd body l h (m7 (fun l h=>cT C N hd t body src r l h Q) Q) qU) (fun zz zz=> .fals)).P):cT C N hd t body src (v::r) loc H Q:=by
 rw [ut]
 refine ⟨hs,cast ?_ h⟩
 refine (yt (iB hC) hd _ _ _ _ _ _).trans (aX (fun q=>wt tab C hd t v loc H q eG) fun l h=> ?_)
 refine (iy (iB hC) N hd _ _ _ _ _).trans (uz (fun q=>b8 tab C N hd body l h q jP) fun fl l h=> ?_)
 induction fl using Flow.casesOn with
 | ret w=>rfl
 | _=>exact ut C N hd t body src r l h Q
theorem oZ{C:aO}{N d:Nat}{hd:Option Nat}{elt:X}{x:String}{ifs:List X}{src:MH→Prop}{loc:Loc}{v:V}{r acc:List V}{H:MH}{Q:List V→MH→Prop}(hC:C=au tab N (d+1))(hs:src H)
  (h:(qQ C true hd true ifs (bu loc x v) H (fun b h=> .br b (bj C true hd elt (bu loc x v) h (fun y h=>dw (iw C hd elt x ifs src loc r (acc++ [y]) h Q)) xQ) (dw (iw C hd elt x ifs src loc r acc h Q))) xQ).P):iw C hd elt x ifs src loc (v::r) acc H Q:=by
 rw [qP]
 rw [jC] at h
 refine ⟨hs,cast ?_ h⟩
 refine (uA (iB hC) hd _ _ _ _ _ _).trans (aX (fun q=>iT tab C hd true ifs (put loc x v) H q eG) fun b h=>lL ?_ (qP ..))
 exact (bw (iB hC) hd _ _ _ _ _).trans (aX (fun q=>we tab C hd elt (put loc x v) h q eG) fun y h=>qP ..)
theorem wg{w:W}(f:Fs)(e:(w.exec f).1=f.keys)(h:(w.exec f).2.next):w.P:=W.go f e h
theorem wl{w:W}{p:Prop}(f:Fs)(e:(w.exec f).1=f.keys)(e2:(w.exec f).2.shape=fun zz zz=>p)(h:p):w.P:=by
 refine W.exec_ok w f e (W.next_P ?_)
 unfold W.next
 rw [e2];exact h
theorem Hf{H:MH}{b:Nat}{ys:List V}{ts:List Txt}{sep:Txt}{Q:Q1}(hb:H b=some (.list ys))(hs:bU ys=some ts)(hl:(ts.map (·.length)).sum+ts.length*sep.length≤bh)(h:Q (.str (jO sep ts)) H):mX .join (.str sep) [.ref b] H Q:=by
 rw [qL]
 show aa (bN (H b)) _
 rw [hb];exact aa.mk (x:=ys) rfl (aa.mk hs ⟨hl,h⟩)
theorem aq{H:MH}{a:Nat}{o:O}:(H.upd a o) a=some o:=cF H a o
theorem o4{H:MH}{a z:Nat}{o:O}(ha:H a=some o)(hz:H z=none):a≠z:=fun e=>by rw [←e,ha] at hz;exact jN hz
theorem bx{H:MH}{z b:Nat}{o o':O}(hz:H z=none)(hb:H b=some o'):(H.upd z o) b=some o':=(d7 _ _ (o4 hb hz)).trans hb
theorem Hg{H:MH}{a b:Nat}{o o':O}(hn:b≠a)(hb:H b=some o'):(H.upd a o) b=some o':=(d7 _ _ hn).trans hb
theorem pl{n k:Nat}(h:small n=true):cP n (k:Int)=some k:=by show dC (small n) _=_;rw [h];rfl
theorem T9{n:Nat}(h:n≤16777216):small n=true:=Nat.ble_eq_true_of_le h
theorem aA{m n:Nat}(h:m≤n)(k:small n=true):small m=true:=Nat.ble_eq_true_of_le (Nat.le_trans h (Nat.le_of_ble_eq_true k))
theorem cU{m n:Nat}(h:m≤n)(k:Nat.blt n bh=true):decide (m<bh)=true:=decide_eq_true (Nat.lt_of_le_of_lt h (Nat.le_of_ble_eq_true k))
theorem bY{b:Bool}(h:b=true):(!b)=false:=by rw [h];rfl
theorem j8{b:Bool}(h:b=false):(!b)=true:=by rw [h];rfl
theorem aR{α:Type}[BEq α][LawfulBEq α]{a b:α}(h:a=b):(a==b)=true:=beq_iff_eq.mpr h
theorem aM{α:Type}[BEq α][LawfulBEq α]{a b:α}(h: ¬a=b):(a==b)=false:=beq_eq_false_iff_ne.mpr h
theorem aL{p:Prop}[Decidable p](h:p):decide p=true:=decide_eq_true h
theorem bc{p:Prop}[Decidable p](h: ¬p):decide p=false:=decide_eq_false h
theorem aP{l:Loc}{x:String}{v:V}:cR (bu l x v) x=some v:=by rw [lF,jC,cD,if_pos rfl]
theorem aD{l:Loc}{x y:String}{v w:V}(h:(x==y)=false)(e:cR l y=some w):cR (bu l x v) y=some w:=by rw [lF,jC,cD,if_neg (beq_eq_false_iff_ne.mp h),←lF];exact e
noncomputable def wk(xs:List String)(x:String)(i:Nat):Bool:=match xs[i]? with
 | some y=>y==x && !((xs.drop (i+1)).contains x)
 | none=>false
theorem bJ{x:String}{w:V}:∀{xs:List String} {vs:List V} {l:Loc},xs.contains x=false→cR l x=some w→cR (gR xs vs l) x=some w
 | [],_,_,_,e=>e
 | _::_,[],_,_,e=>e
 | y::xs,v::vs,l,h,e=>by
  rw [List.contains_cons,Bool.or_eq_false_iff] at h
  exact bJ (xs:=xs) (vs:=vs) (l:=bu l y v) h.2 (aD (aM fun z=>(beq_eq_false_iff_ne.mp h.1) z.symm) e)
noncomputable def yu:List V→Nat→V
 | [],_=> .none
 | v::_,0=>v
 | _::r,i+1=>yu r i
theorem gw{x:String}:∀(i:Nat) {xs:List String} {vs:List V} {l:Loc},wk xs x i=true→Nat.blt i vs.length=true→cR (gR xs vs l) x=some (yu vs i)
 | _,[],_,_,h,_=>nomatch h
 | _,_::_,[],_,_,e=>nomatch (Nat.le_of_ble_eq_true e)
 | 0,y::xs,w::vs,l,h,_=>by
  have h':=Bool.and_eq_true_iff.1 h
  obtain rfl:=eq_of_beq h'.1
  exact bJ (xs:=xs) (vs:=vs) (Bool.not_eq_true' _▸h'.2) aP
 | i+1,_::xs,_::vs,l,h,e=>gw i (xs:=xs) (vs:=vs) h e
theorem Yy{α:Type}{x y:List α}{m n k:Nat}(hx:x.length≤m)(hy:y.length≤n)(h:Nat.ble (m+n) k=true):(x++y).length≤k:=by
 rw [List.length_append];exact Nat.le_trans (Nat.add_le_add hx hy) (Nat.le_of_ble_eq_true h)
theorem aC{α:Type}{x y:List α}{m n:Nat}(hx:x.length≤m)(hy:y.length≤n):(x++y).length≤m+n:=by
 rw [List.length_append];exact Nat.add_le_add hx hy
theorem lk{α:Type}{x:List α}(k:Nat)(h:Nat.ble x.length k=true):x.length≤k:=Nat.le_of_ble_eq_true h
theorem eQ{α:Type}{x:List α}{n:Nat}:(x.take n).length≤n:=List.length_take_le n x
theorem aQ{n k:Nat}(h:Nat.ble n k=true):n≤k:=Nat.le_of_ble_eq_true h
theorem fY{m n k:Nat}(h:m≤n)(h2:Nat.ble n k=true):m≤k:=Nat.le_trans h (Nat.le_of_ble_eq_true h2)
theorem m8(H:MH)(a:Nat)(o o':O):(H.upd a o).upd a o'=H.upd a o':=by
 funext b
 by_cases e:b=a
 ·rw [e,cF,cF]
 ·rw [d7 _ _ e,d7 _ _ e,d7 _ _ e]
theorem uu{Q:Q1}{v:V}{H:MH}{a:Nat}{o o':O}(h:Q v (H.upd a o')):Q v ((H.upd a o).upd a o'):=by rw [m8];exact h
theorem fZ{n k:Nat}(h:n<k):(n:Int)<(k:Int):=Int.ofNat_lt.mpr h
theorem j9{n k:Nat}(h:n≤k):(n:Int)≤(k:Int):=Int.ofNat_le.mpr h
theorem iC{n k:Nat}(h: ¬n<k): ¬(n:Int)<(k:Int):=fun e=>h (Int.ofNat_lt.mp e)
theorem gF{n k:Nat}(h: ¬n≤k): ¬(n:Int)≤(k:Int):=fun e=>h (Int.ofNat_le.mp e)
noncomputable def kh(t:Txt):Txt:=if 150<t.length then t.take 150++ [46,46,46] else t
theorem o5{t:Txt}(h:150<t.length):kh t=t.take 150++ [46,46,46]:=if_pos h
theorem o6{t:Txt}(h: ¬150<t.length):kh t=t:=if_neg h
theorem uB(t:Txt):(kh t).length≤153:=by
 by_cases h:150<t.length
 ·rw [o5 h];exact aC eQ (Nat.le_refl _)
 ·rw [o6 h];exact Nat.le_trans (Nat.le_of_not_lt h) (Nat.le_add_right _ 3)
structure aK where
 code:Int
 val:Txt
 ec:Nat
 lvl:Int
 ret:Int
 info:Txt
 ex:Bool
 noted:Bool
noncomputable def W1:Txt:= [10,32,32,32,32,119,104,105,108,101,32,101,120,101,99,117,116,105,110,103,10,34]
noncomputable def W2:Txt:= [10,32,32,32,32,105,110,118,111,107,101,100,32,102,114,111,109,32,119,105,116,104,105,110,10,34]
theorem Hh:W1= [10,32,32,32,32,119,104,105,108,101,32,101,120,101,99,117,116,105,110,103,10]++ [34]:=rfl
theorem Hi:W2= [10,32,32,32,32,105,110,118,111,107,101,100,32,102,114,111,109,32,119,105,116,104,105,110,10]++ [34]:=rfl
noncomputable def eU(f:aK)(t:Txt):aK:=
 if f.code=1 then {f with info:=if f.info= [] then f.val++W1++kh t++ [34] else if f.noted then f.info++W2++kh t++ [34] else f.info,noted:=true} else f
noncomputable def je:Nat→V
 | 0=> .tup [.str [65], .str [98,32,99]]
 | 1=> .str [67,32,123,100,32,101,125]
 | _=> .tup [.str [78,79,78,69]]
noncomputable def gV:Nat→Txt
 | 0=> [65,32,123,98,32,99,125]
 | 1=> [67,32,123,100,32,101,125]
 | _=> [78,79,78,69]
noncomputable def cB(b:Bool):O:= .list (if b then [.tup [.str [45,120], .str [121,32,122]]] else [])
noncomputable def d8(f:aK)(x:Nat):O:= .list [.int f.code, .str f.val,je f.ec, .int f.lvl, .int f.ret, .str f.info, .ref x, .bool f.noted]
noncomputable def cG(f:aK)(x:Nat):O:= .exc 84 [("code", .int f.code),("value", .str f.val),("errorcode",je f.ec),("level", .int f.lvl),("ret", .int f.ret),("info", .str f.info),("is_noted", .bool f.noted),("line", .int 0),("extra", .ref x)]
theorem uC{f:aK}{t:Txt}(h: ¬f.code=1):eU f t=f:=if_neg h
theorem uD{f:aK}{t:Txt}(h:f.code=1)(hi:f.info= []):eU f t={f with info:=f.val++W1++kh t++ [34],noted:=true}:=by unfold eU;rw [if_pos h,if_pos hi]
theorem uE{f:aK}{t:Txt}(h:f.code=1)(hi: ¬f.info= [])(hn:f.noted=true):eU f t={f with info:=f.info++W2++kh t++ [34],noted:=true}:=by unfold eU;rw [if_pos h,if_neg hi,if_pos hn]
theorem uF{f:aK}{t:Txt}(h:f.code=1)(hi: ¬f.info= [])(hn:f.noted=false):eU f t={f with noted:=true}:=by unfold eU;rw [if_pos h,if_neg hi,hn];rfl
theorem uG(a w c:Txt):a++(w++ [34])++c++ [34]=a++w++([34]++c++ [34]):=by simp only [List.append_assoc]
theorem Hj{N d:Nat}{hd:Option Nat}{t:Txt}{H:MH}{Q:Q1}{E:E1}
  (ht:t.length≤100000)
  (h:Q (.str (kh t)) H):
  au tab N (d+2) hd (.con (.ref 146)) [.str t, .int 150] H Q E:=by
 refine kf Bg rfl rfl fun C hC=> ?_
 by_cases hc:150<t.length
 ·rw [o5 hc] at h
  have c:(150:Int)<(t.length:Int):=fZ hc
  refine wg (.t (aA ht rfl) (.t (aL c) (.t rfl (.t (aA eQ rfl) (.t (aA (aC eQ (lk 3 rfl)) rfl) .n))))) rfl ?_
  exact h
 ·rw [o6 hc] at h
  have c: ¬(150:Int)<(t.length:Int):=iC hc
  refine wg (.t (aA ht rfl) (.f (bc c) .n)) rfl ?_
  exact h
theorem Ua{N d:Nat}{hd:Option Nat}{a x:Nat}{f:aK}{t:Txt}{H:MH}{Q:Q1}{E:E1}
  (ha:H a=some (cG f x)) (ht:t.length≤100000) (hv:f.val.length≤100000) (hi:f.info.length≤100000)
  (h:Q .none (H.upd a (cG (eU f t) x))):
  au tab N (d+3) hd (.con (.ref 153)) [.ref a, .str t] H Q E:=by
 have hl:=uB t
 refine kf Bh rfl rfl fun C hC=> ?_
 by_cases hc:f.code=1
 ·by_cases hi0:f.info= []
  ·rw [uD hc hi0] at h
   refine wg (.o ha (.f (bY (aR hc)) (.o ha (.t (aR hi0) (.o ha (.t (aA (aC hv (lk 22 rfl)) rfl) .n)))))) rfl ?_
   refine cu hC (Hj ht ?_)
   refine wg (.t (aA (aC (aC hv (lk 22 rfl)) hl) rfl) (.t (aA (aC (aC (aC hv (lk 22 rfl)) hl) (lk 1 rfl)) rfl) (.o ha (.o aq .n)))) rfl ?_
   exact uu (Q:=Q) h
  ·induction hn:f.noted using Bool.casesOn with
   | true=>
    rw [uE hc hi0 hn] at h
    refine wg (.o ha (.f (bY (aR hc)) (.o ha (.f (aM hi0) (.o ha (.t hn (.o ha (.t (aA (aC hi (lk 26 rfl)) rfl) .n)))))))) rfl ?_
    refine cu hC (Hj ht ?_)
    refine wg (.t (aA (aC (aC hi (lk 26 rfl)) hl) rfl) (.t (aA (aC (aC (aC hi (lk 26 rfl)) hl) (lk 1 rfl)) rfl) (.o ha (.o aq .n)))) rfl ?_
    exact uu (Q:=Q) h
   | false=>
    rw [uF hc hi0 hn] at h
    refine wg (.o ha (.f (bY (aR hc)) (.o ha (.f (aM hi0) (.o ha (.f hn (.o ha .n))))))) rfl ?_
    exact h
 ·rw [uC hc,oN ha] at h
  refine wg (.o ha (.t (j8 (aM hc)) .n)) rfl ?_
  exact h
theorem Hk{N d:Nat}{hd:Option Nat}{a x:Nat}{f:aK}{t:Txt}{H:MH}{Q:Q1}{E:E1}
  (ha:H a=some (d8 f x)) (ht:t.length≤100000) (hv:f.val.length≤100000) (hi:f.info.length≤100000)
  (h:Q .none (H.upd a (d8 (eU f t) x))):
  au tab N (d+2) hd (.con (.ref 921)) [.ref a, .str t] H Q E:=by
 have hl:=uB t
 refine kf CW rfl rfl fun C hC=> ?_
 by_cases hc:f.code=1
 ·have hs:=hl
  by_cases l0:150<t.length
  ·rw [o5 l0] at hs
   have c: ¬(t.length:Int)≤150:=gF (Nat.not_le_of_lt l0)
   by_cases hi0:f.info= []
   ·rw [uD hc hi0,Hh,uG,o5 l0] at h
    refine wg (.o ha (.f (bY (aR hc)) (.t (aA ht rfl) (.f (bc c) (.t rfl (.t (aA eQ rfl) (.t (aA (aC eQ (lk 3 rfl)) rfl) (.t (aA (aC (lk 1 rfl) (aC eQ (lk 3 rfl))) rfl) (.t (aA (aC (aC (lk 1 rfl) (aC eQ (lk 3 rfl))) (lk 1 rfl)) rfl) (.o ha (.t (aR hi0) (.o ha (.t (aA (aC hv (lk 21 rfl)) rfl) (.t (aA (aC (aC hv (lk 21 rfl)) (aC (aC (lk 1 rfl) (aC eQ (lk 3 rfl))) (lk 1 rfl))) rfl) (.o ha (.o aq .n)))))))))))))))) rfl ?_
    exact uu (Q:=Q) h
   ·induction hn:f.noted using Bool.casesOn with
    | true=>
     rw [uE hc hi0 hn,Hi,uG,o5 l0] at h
     refine wg (.o ha (.f (bY (aR hc)) (.t (aA ht rfl) (.f (bc c) (.t rfl (.t (aA eQ rfl) (.t (aA (aC eQ (lk 3 rfl)) rfl) (.t (aA (aC (lk 1 rfl) (aC eQ (lk 3 rfl))) rfl) (.t (aA (aC (aC (lk 1 rfl) (aC eQ (lk 3 rfl))) (lk 1 rfl)) rfl) (.o ha (.f (aM hi0) (.o ha (.t hn (.o ha (.t (aA (aC hi (lk 25 rfl)) rfl) (.t (aA (aC (aC hi (lk 25 rfl)) (aC (aC (lk 1 rfl) (aC eQ (lk 3 rfl))) (lk 1 rfl))) rfl) (.o ha (.o aq .n)))))))))))))))))) rfl ?_
     exact uu (Q:=Q) h
    | false=>
     rw [uF hc hi0 hn] at h
     refine wg (.o ha (.f (bY (aR hc)) (.t (aA ht rfl) (.f (bc c) (.t rfl (.t (aA eQ rfl) (.t (aA (aC eQ (lk 3 rfl)) rfl) (.t (aA (aC (lk 1 rfl) (aC eQ (lk 3 rfl))) rfl) (.t (aA (aC (aC (lk 1 rfl) (aC eQ (lk 3 rfl))) (lk 1 rfl)) rfl) (.o ha (.f (aM hi0) (.o ha (.f hn (.o ha .n)))))))))))))) rfl ?_
     exact h
  ·rw [o6 l0] at hs
   have c:(t.length:Int)≤150:=j9 (Nat.le_of_not_lt l0)
   by_cases hi0:f.info= []
   ·rw [uD hc hi0,Hh,uG,o6 l0] at h
    refine wg (.o ha (.f (bY (aR hc)) (.t (aA hs rfl) (.t (aL c) (.t (aA (aC (lk 1 rfl) hs) rfl) (.t (aA (aC (aC (lk 1 rfl) hs) (lk 1 rfl)) rfl) (.o ha (.t (aR hi0) (.o ha (.t (aA (aC hv (lk 21 rfl)) rfl) (.t (aA (aC (aC hv (lk 21 rfl)) (aC (aC (lk 1 rfl) hs) (lk 1 rfl))) rfl) (.o ha (.o aq .n))))))))))))) rfl ?_
    exact uu (Q:=Q) h
   ·induction hn:f.noted using Bool.casesOn with
    | true=>
     rw [uE hc hi0 hn,Hi,uG,o6 l0] at h
     refine wg (.o ha (.f (bY (aR hc)) (.t (aA hs rfl) (.t (aL c) (.t (aA (aC (lk 1 rfl) hs) rfl) (.t (aA (aC (aC (lk 1 rfl) hs) (lk 1 rfl)) rfl) (.o ha (.f (aM hi0) (.o ha (.t hn (.o ha (.t (aA (aC hi (lk 25 rfl)) rfl) (.t (aA (aC (aC hi (lk 25 rfl)) (aC (aC (lk 1 rfl) hs) (lk 1 rfl))) rfl) (.o ha (.o aq .n))))))))))))))) rfl ?_
     exact uu (Q:=Q) h
    | false=>
     rw [uF hc hi0 hn] at h
     refine wg (.o ha (.f (bY (aR hc)) (.t (aA hs rfl) (.t (aL c) (.t (aA (aC (lk 1 rfl) hs) rfl) (.t (aA (aC (aC (lk 1 rfl) hs) (lk 1 rfl)) rfl) (.o ha (.f (aM hi0) (.o ha (.f hn (.o ha .n))))))))))) rfl ?_
     exact h
 ·rw [uC hc,oN ha] at h
  refine wg (.o ha (.t (j8 (aM hc)) .n)) rfl ?_
  exact h
noncomputable def Le(H H':MH):Prop:=∀a o,H a=some o→H' a=some o
theorem Le.refl(H:MH):Le H H:=fun zz zz h=>h
theorem Le.trans{A B C:MH}(h:Le A B)(k:Le B C):Le A C:=fun a o e=>k a o (h a o e)
theorem Le.new{H:MH}{z:Nat}(o:O)(hz:H z=none):Le H (H.upd z o):=by
 intro a o' h
 by_cases e:a=z
 ·subst e;rw [hz] at h;exact aG h
 ·rw [d7 _ _ e];exact h
theorem Le.upd{H H':MH}{z:Nat}{o:O}(h:Le H H')(e:H' z=some o):Le (H.upd z o) H':=by
 intro a o' h'
 by_cases e':a=z
 ·subst e';rw [cF] at h';obtain rfl:=Option.some.inj h';exact e
 ·rw [d7 _ _ e'] at h';exact h a o' h'
theorem Le.upds{H H':MH}{z:Nat}{o:O}(h:Le H H'):Le (H.upd z o) (H'.upd z o):=by
 intro a o' h'
 by_cases e':a=z
 ·subst e';rw [cF] at h';obtain rfl:=Option.some.inj h';exact cF _ _ _
 ·rw [d7 _ _ e'] at h';rw [d7 _ _ e'];exact h a o' h'
theorem Le.set{K H:MH}{z:Nat}{o:O}(h:Le K H)(e:K z=none):Le K (H.upd z o):=by
 intro a o' h'
 by_cases e':a=z
 ·subst e';rw [e] at h';exact aG h'
 ·rw [d7 _ _ e'];exact h a o' h'
structure aj(F:MH)(M:List (Nat×O))(H:MH):Prop where
 fr:Le F H
 cells:∀p∈M,H p.1=some p.2
 ap:∀p∈M,F p.1=none
 nd:(M.map (·.1)).Nodup
theorem aj.at{F:MH}{M:List (Nat×O)}{H:MH}(h:aj F M H)(i:Nat){a:Nat}{o:O}(e:M[i]? =some (a,o)):H a=some o:=
 h.cells _ (List.mem_of_getElem? e)
theorem aj.le{F:MH}{M:List (Nat×O)}{H H':MH}(h:aj F M H)(k:Le H H'):aj F M H':=
 ⟨h.fr.trans k,fun p m=>k _ _ (h.cells p m),h.ap,h.nd⟩
theorem aj.new{F:MH}{M:List (Nat×O)}{H:MH}(h:aj F M H){z:Nat}(o:O)(hz:H z=none):aj F ((z,o)::M) (H.upd z o):=by
 have hne:∀p∈M,p.1≠z:=fun p m e=>by have:=h.cells p m;rw [e,hz] at this;exact aG this
 refine ⟨h.fr.trans (Le.new o hz), ?_, ?_, ?_⟩
 ·intro p m
  rcases List.mem_cons.1 m with rfl | m
  ·exact cF _ _ _
  ·rw [d7 _ _ (hne p m)];exact h.cells p m
 ·intro p m
  rcases List.mem_cons.1 m with rfl | m
  ·induction e:F z using Option.casesOn with
   | none=>rfl
   | some o'=>have:=h.fr _ _ e;rw [hz] at this;exact aG this
  ·exact h.ap p m
 ·refine List.nodup_cons.2 ⟨?_,h.nd⟩
  intro m
  obtain ⟨p,m,e⟩:=List.mem_map.1 m
  exact hne p m e
theorem aj.newF{F:MH}{M:List (Nat×O)}{H:MH}(h:aj F M H){z:Nat}(o:O)(hz:H z=none):aj (F.upd z o) M (H.upd z o)∧Le F (F.upd z o):=by
 have hF:F z=none:=by
  induction e:F z using Option.casesOn with
  | none=>rfl
  | some o'=>have:=h.fr _ _ e;rw [hz] at this;exact aG this
 have hne:∀p∈M,p.1≠z:=fun p m e=>by have:=h.cells p m;rw [e,hz] at this;exact aG this
 refine ⟨⟨h.fr.upds,fun p m=> ?_,fun p m=> ?_,h.nd⟩,Le.new o hF⟩
 ·rw [d7 _ _ (hne p m)];exact h.cells p m
 ·rw [d7 _ _ (hne p m)];exact h.ap p m
theorem aj.frz{F:MH}{M:List (Nat×O)}{H:MH}{z:Nat}{o:O}(h:aj F ((z,o)::M) H):aj (F.upd z o) M H∧Le F (F.upd z o):=by
 have hz:F z=none:=h.ap _ List.mem_cons_self
 have hd:=List.nodup_cons.1 h.nd
 refine ⟨⟨h.fr.upd (h.cells _ List.mem_cons_self),fun p m=>h.cells p (List.mem_cons_of_mem _ m),fun p m=> ?_,hd.2⟩,Le.new o hz⟩
 have:p.1≠z:=fun e=>hd.1 (List.mem_map.2 ⟨p,m,e⟩)
 rw [d7 _ _ this];exact h.ap p (List.mem_cons_of_mem _ m)
theorem Hl(M:List (Nat×O))(i:Nat)(a:Nat)(o o':O)(e:M[i]? =some (a,o)):(M.set i (a,o')).map (·.1)=M.map (·.1):=by
 rw [List.map_set]
 refine List.ext_getElem? fun j=> ?_
 rw [List.getElem?_set]
 by_cases hj:i=j
 ·subst hj
  obtain ⟨hl,hv⟩:=List.getElem?_eq_some_iff.1 e
  simp [hl,hv]
 ·simp [hj]
theorem aj.set{F:MH}{M:List (Nat×O)}{H:MH}(h:aj F M H)(i:Nat){a:Nat}{o:O}(o':O)(e:M[i]? =some (a,o)):aj F (M.set i (a,o')) (H.upd a o'):=by
 have ha:F a=none:=h.ap _ (List.mem_of_getElem? e)
 refine ⟨h.fr.set ha, ?_, ?_, ?_⟩
 ·intro p m
  obtain ⟨j,hj⟩:=List.getElem?_of_mem m
  rw [List.getElem?_set] at hj
  by_cases hij:i=j
  ·subst hij
   have hl:i<M.length:=(List.getElem?_eq_some_iff.1 e).1
   simp only [if_pos rfl,hl,if_true,Option.some.injEq] at hj
   subst hj;exact cF _ _ _
  ·simp only [if_neg hij] at hj
   have hne:p.1≠a:=by
    intro ea
    have hn:=h.nd
    have e1:(M.map (·.1))[j]? =some a:=by simp [hj,ea]
    have e2:(M.map (·.1))[i]? =some a:=by simp [e]
    obtain ⟨l1,q1⟩:=List.getElem?_eq_some_iff.1 e1
    obtain ⟨l2,q2⟩:=List.getElem?_eq_some_iff.1 e2
    exact hij ((List.getElem?_inj l2 hn).1 (e2.trans e1.symm))
   rw [d7 _ _ hne];exact h.cells p (List.mem_of_getElem? hj)
 ·intro p m
  have:p.1∈(M.set i (a,o')).map (·.1):=List.mem_map.2 ⟨p,m,rfl⟩
  rw [Hl M i a o o' e] at this
  obtain ⟨q,mq,eq⟩:=List.mem_map.1 this
  rw [←eq];exact h.ap q mq
 ·rw [Hl M i a o o' e];exact h.nd
theorem aj.base(H:MH):aj H [] H:=⟨Le.refl H,fun zz m=>(nomatch m),fun zz m=>(nomatch m),List.nodup_nil⟩
theorem aj.set0{F:MH}{M:List (Nat×O)}{H:MH}{a:Nat}{o o':O}(h:aj F ((a,o)::M) H):aj F ((a,o')::M) (H.upd a o'):=h.set 0 o' rfl
theorem aj.perm{F:MH}{M M':List (Nat×O)}{H:MH}(h:aj F M H)(p:M.Perm M'):aj F M' H:=
 ⟨h.fr,fun q m=>h.cells q (p.mem_iff.2 m),fun q m=>h.ap q (p.mem_iff.2 m),(p.map _).nodup_iff.1 h.nd⟩
theorem aj.new1{F:MH}{M:List (Nat×O)}{H:MH}{p:Nat×O}{z:Nat}{o:O}(h:aj F (p::M) H)(hz:H z=none):aj F (p::(z,o)::M) (H.upd z o):=(h.new o hz).perm (List.Perm.swap _ _ _)
theorem aj.sub{F:MH}{M M':List (Nat×O)}{H:MH}(h:aj F M H)(p:M'.Sublist M):aj F M' H:=
 ⟨h.fr,fun q m=>h.cells q (p.subset m),fun q m=>h.ap q (p.subset m),List.Nodup.sublist (p.map _) h.nd⟩
theorem aj.drop1{F:MH}{M:List (Nat×O)}{H:MH}{p:Nat×O}(h:aj F (p::M) H):aj F M H:=h.sub (List.sublist_cons_self _ _)
theorem aj.ne'{F:MH}{M:List (Nat×O)}{H:MH}{a:Nat}{o:O}{r:List (Nat×O)}(h:aj F M H)(e:M=(a,o)::r)(i:Nat){b:Nat}{o':O}(e':r[i]? =some (b,o')):b≠a:=by
 subst e
 exact fun z=>(List.nodup_cons.1 h.nd).1 (List.mem_map.2 ⟨_,List.mem_of_getElem? e',z⟩)
theorem aj.ne{F:MH}{M:List (Nat×O)}{H:MH}(h:aj F M H){a:Nat}{o:O}(ha:F a=some o)(i:Nat){b:Nat}{o':O}(e:M[i]? =some (b,o')):a≠b:=by
 rintro rfl
 have:=h.ap _ (List.mem_of_getElem? e);rw [ha] at this;exact jN this
noncomputable def uH(c:Nat):Bool:= !(([93,91,36,59,92,9,11,12,13]:List Nat).contains c)
noncomputable def m9(c:Nat):Prop:=uH c=true
theorem m9.ne{c k:Nat}(h:m9 c)(hk:uH k=false): ¬c=k:=fun e=>nomatch (h.symm.trans (e▸hk):true=false)
structure MS where
 d:Int
 b:Bool
 we:Bool
 wb:Bool
noncomputable def gf(s:MS)(c:Nat):MS:=
 if c=123 then {s with d:=s.d+1} else if c=125 then {s with d:=s.d - 1} else if c=34 then {s with b:=true,we:=true} else
 if c=32∨c=10 then {s with b:=true,wb:=true} else s
noncomputable def qW(s:MS):Txt→Prop
 | []=>True
 | c::r=>0≤(gf s c).d∧qW (gf s c) r
noncomputable def qX(t:Txt)(h ih:Bool)(bg:V)(s:MS)(k:Int)(tl:Loc):Loc:=
 ("element", .str t)::("is_hash", .bool h)::("begins",bg)::("is_bound", .bool s.b)::("is_hashed", .bool ih)::("wants_brace", .bool s.wb)::("wants_escape", .bool s.we)::("depth", .int s.d)::("at", .int k)::tl
theorem Ub{N d:Nat}{hd:Option Nat}{c:Nat}{H:MH}{Q:Q1}{E:E1}(h:Q (.bool (([[32],[9],[10],[11],[12],[13]]:List Txt).contains [c])) H):
  au tab N (d+1) hd (.con (.ref 595)) [.str [c]] H Q E:=by
 refine k0 Ca rfl rfl fun C hC=> ?_
 refine wg .n rfl ?_
 exact h
theorem eV{a b:Nat}(h: ¬a=b):(([a]:Txt)== [b])=false:=aM fun e=>h (List.cons.inj e).1
theorem iD{a:Txt}{r:List Txt}{c:Nat}(h:([c]==a)=false)(k:r.contains [c]=false):(a::r).contains [c]=false:=by rw [List.contains_cons,h,k];rfl
theorem Uc{N d:Nat}{C:aO}(hC:C=au tab N (d+2)){hd:Option Nat}{H:MH}{cc:X}{body:List St}(hb:qe.body[7]? =some (.loop cc body)){Q:QS}{E:ES}{t:Txt}{hh iz:Bool}{bg:V}(e5:small t.length=true):
  ∀(r pre:Txt) (n:Nat) (s:MS) (k:Nat) (tl:Loc),t=pre++r→k=pre.length→r.length<n→(∀c∈r,m9 c)→qW s r→
   (∀tl,Q .next (qX t hh iz bg (r.foldl gf s) t.length tl) H)→eO C N hd cc body E n (qX t hh iz bg s k tl) H Q:=by
 cases hb
 intro r
 induction r with
 | nil=>
  intro pre n s k tl e ek hn hok hnn hQ
  obtain _ | m:=n
  ·exact absurd hn (Nat.not_lt_zero _)
  have e2:k=t.length:=by rw [ek,e,List.append_nil]
  have e3: ¬(k:Int)<(t.length:Int):=e2▸Int.lt_irrefl _
  refine kl hC ?_
  refine wg (.t e5 (.f (bc e3) .n)) rfl ?_
  exact e2▸hQ tl
 | cons c r ih=>
  intro pre n s k tl e ek hn hok hnn hQ
  obtain _ | m:=n
  ·exact absurd hn (Nat.not_lt_zero _)
  have e2:k<t.length:=by rw [e,ek,List.length_append];exact Nat.lt_add_of_pos_right (Nat.zero_lt_succ _)
  have e3:(k:Int)<(t.length:Int):=fZ e2
  have e4:t[k]? =some c:=by rw [e,ek,List.getElem?_append_right (Nat.le_refl _),Nat.sub_self];rfl
  have next:∀tl,eO C N hd _ _ E m (qX t hh iz bg (gf s c) (k+1:Nat) tl) H Q:=fun tl=>
   ih (pre++ [c]) m (gf s c) (k+1) tl (by rw [e,List.append_assoc];rfl) (by rw [ek,List.length_append];rfl) (Nat.lt_of_succ_lt_succ hn) (fun x m=>hok x (List.mem_cons_of_mem _ m)) hnn.2 hQ
  have q:=hok c List.mem_cons_self
  refine kl hC ?_
  by_cases c1:c=123
  ·subst c1
   refine wg (.t e5 (.t (aL e3) (.k (pl e5) (.k e4 (.v rfl (.v (aD rfl aP) .n)))))) rfl ?_
   exact next _
  ·have f1:=eV c1
   by_cases c2:c=125
   ·subst c2
    have hd0: ¬s.d - 1<0:=Int.not_lt.mpr hnn.1
    refine wg (.t e5 (.t (aL e3) (.k (pl e5) (.k e4 (.v rfl (.v (aD rfl aP) (.v (aD rfl aP) (.t rfl (.f (bc hd0) .n))))))))) rfl ?_
    exact next _
   ·have f2:=eV c2
    by_cases c3:c=34
    ·subst c3
     have f3:(([[93],[34]]:List Txt).contains [34])=true:=rfl
     refine wg (.t e5 (.t (aL e3) (.k (pl e5) (.k e4 (.v rfl (.v (aD rfl aP) (.v (aD rfl aP) (.v (aD rfl aP) .n)))))))) rfl ?_
     exact next _
    ·have f3:(([[93],[34]]:List Txt).contains [c])=false:=iD (eV (q.ne rfl)) (iD (eV c3) rfl)
     have f4:(([[91],[36],[59],[92]]:List Txt).contains [c])=false:=iD (eV (q.ne rfl)) (iD (eV (q.ne rfl)) (iD (eV (q.ne rfl)) (iD (eV (q.ne rfl)) rfl)))
     have em:gf s c=if c=32∨c=10 then {s with b:=true,wb:=true} else s:=by unfold gf;rw [if_neg c1,if_neg c2,if_neg c3]
     refine wg (.t e5 (.t (aL e3) (.k (pl e5) (.k e4 (.v rfl (.v (aD rfl aP) (.f f1 (.v (aD rfl aP) (.f f2 (.v (aD rfl aP) (.f f3 (.v (aD rfl aP) (.f f4 (.v (aD rfl aP) .n)))))))))))))) rfl ?_
     refine cu hC (Ub ?_)
     by_cases c4:c=32∨c=10
     ·rw [em,if_pos c4] at next
      have f5:(([[32],[9],[10],[11],[12],[13]]:List Txt).contains [c])=true:=by rcases c4 with rfl | rfl<;>rfl
      have f6:=eV (q.ne (k:=92) rfl)
      refine wg (.t f5 (.t f5 (.v (aD rfl (aD rfl (aD rfl aP))) (.f f6 .n)))) rfl ?_
      exact next _
     ·rw [em,if_neg c4] at next
      have f5:(([[32],[9],[10],[11],[12],[13]]:List Txt).contains [c])=false:=iD (eV fun e=>c4 (.inl e)) (iD (eV (q.ne rfl)) (iD (eV fun e=>c4 (.inr e)) (iD (eV (q.ne rfl)) (iD (eV (q.ne rfl)) (iD (eV (q.ne rfl)) rfl)))))
      refine wg (.f f5 .n) rfl ?_
      exact next _
noncomputable def sp(t:Txt):Bool:=t.contains 32 || t.contains 10
noncomputable def bq(t:Txt):Bool:=t.head? ==some 123 || t.head? ==some 34
noncomputable def uI(t:Txt):MS:=⟨0,bq t,false,bq t⟩
noncomputable def ni(t:Txt):MS:=t.foldl gf (uI t)
noncomputable def qT(t:Txt):Txt:=if t= []∨sp t=true then 123::t++ [125] else t
structure kj(t:Txt):Prop where
 len:t.length≤100000
 ok:∀c∈t,m9 c
 hash:t.head? ≠some 35
 nn:qW (uI t) t
 d0:(ni t).d=0
 b0:t≠ []→(ni t).b=sp t
 w0:(ni t).we=true→(ni t).wb=true
theorem uJ{t:Txt}(h:t= []∨sp t=true):qT t=123::t++ [125]:=if_pos h
theorem yw{t:Txt}(h: ¬(t= []∨sp t=true)):qT t=t:=if_neg h
theorem Ud(t:Txt):(qT t).length≤t.length+2:=by
 by_cases h:t= []∨sp t=true
 ·rw [uJ h,List.length_append];exact Nat.le_refl _
 ·rw [yw h];exact Nat.le_add_right _ _
theorem Ue(c:Nat)(r:Txt):(([[123],[34]]:List Txt).contains [c])=bq (c::r):=by
 have k:∀a:Nat,(([c]:Txt)== [a])=(some c==some a):=fun a=>by
  by_cases e:c=a
  ·rw [aR (congrArg (fun x=> [x]) e),aR (congrArg some e)]
  ·rw [eV e,aM fun z=>e (Option.some.inj z)]
 show (([c]:Txt)== [123] || (([c]:Txt)== [34] || false))=_
 rw [k,k,Bool.or_false];rfl
theorem Ug{N d:Nat}{hd:Option Nat}{t:Txt}{h:Bool}{H:MH}{Q:Q1}{E:E1}(hN:200000≤N)(hq:kj t)
  (hQ:Q (.str (if t= []∨sp t=true then [98,114,97,99,101] else [110,111,110,101])) H):
  au tab N (d+3) hd (.con (.ref 602)) [.str t, .bool h] H Q E:=by
 refine kf qe rfl rfl fun C hC=> ?_
 have hlen:=hq.len
 by_cases e0:t= []
 ·rw [if_pos (.inl e0)] at hQ
  refine wg (.t (aR e0) .n) rfl ?_
  exact hQ
 ·obtain _ | ⟨c,r⟩:=t
  ·exact absurd rfl e0
  have hz:=eV fun e:c=35=>hq.hash (congrArg some e)
  have g1:small (c::r).length=true:=aA hlen rfl
  have g3:=Ue c r
  have fin:∀ih tl,ih=false→(bA C true N hd (qe.body.drop 8) (qX (c::r) h ih (.str [c]) (ni (c::r)) (c::r).length tl) H (cz Q) (cJ E)).P:=by
   intro ih tl hi
   have b0:=hq.b0 e0
   have w0:=hq.w0
   have d1: ¬(0:Int)<(ni (c::r)).d:=hq.d0▸Int.lt_irrefl 0
   generalize ni (c::r)=s at*
   by_cases hs:sp (c::r)=true
   ·rw [if_pos (.inr hs)] at hQ
    have s1:s.b=true:=b0.trans hs
    induction hwe:s.we using Bool.casesOn with
    | false=>
     refine wg (.f (bc d1) (.t s1 (.f hwe (.f hwe .n)))) rfl ?_
     exact hQ
    | true=>
     have s2:=w0 hwe
     refine wg (.f (bc d1) (.t s1 (.t hwe (.f (bY s2) (.f (bY s2) .n))))) rfl ?_
     exact hQ
   ·rw [if_neg fun z=>z.elim e0 hs] at hQ
    have s1:s.b=false:=b0.trans (Bool.not_eq_true _▸hs)
    refine wg (.f (bc d1) (.f s1 (.f hi .n))) rfl ?_
    exact hQ
  have lp:∀ih b w tl,ih=false→b=bq (c::r)→w=bq (c::r)→eO C N hd _ _ _ N (qX (c::r) h ih (.str [c]) ⟨0,b,false,w⟩ 0 tl) H fun fl l hh=>W.P (match fl with
    | .next=>bA C true N hd (qe.body.drop 8) l hh (cz Q) (cJ E)
    | .cont=> .fals
    | .ret v=>dw (Q v hh)):=fun ih b w tl h0 h1 h2=>by
   subst h1 h2
   exact Uc (E:=iU E) hC rfl g1 (c::r) [] N (uI (c::r)) 0 tl rfl rfl (Nat.lt_of_le_of_lt hlen (Nat.lt_of_lt_of_le (Nat.lt_of_succ_le (Nat.le_of_ble_eq_true rfl)) hN)) hq.ok hq.nn fun tl=>fin ih tl h0
  induction hb:(([[123],[34]]:List Txt).contains [c]) using Bool.casesOn with
  | true=>
   induction h using Bool.casesOn with
   | true=>
    refine wg (.k (pl g1) (.t rfl (.t hb .n))) rfl ?_
    exact lp _ _ _ _ hz g3 g3
   | false=>
    refine wg (.k (pl g1) (.f rfl (.t hb .n))) rfl ?_
    exact lp _ _ _ _ rfl g3 g3
  | false=>
   induction h using Bool.casesOn with
   | true=>
    refine wg (.k (pl g1) (.t rfl (.f hb .n))) rfl ?_
    exact lp _ _ _ _ hz g3 (hz.trans (hb.symm.trans g3))
   | false=>
    refine wg (.k (pl g1) (.f rfl (.f hb .n))) rfl ?_
    exact lp _ _ _ _ rfl g3 (hb.symm.trans g3)
theorem Uh{N d:Nat}{hd:Option Nat}{t:Txt}{h:Bool}{H:MH}{Q:Q1}{E:E1}(hN:200000≤N)(hq:kj t)
  (hQ:Q (.str (qT t)) H):
  au tab N (d+4) hd (.con (.ref 617)) [.str t, .bool h] H Q E:=by
 have hlen:=hq.len
 refine kf Cd rfl rfl fun C hC=> ?_
 refine wg .n rfl ?_
 refine cu hC (Ug hN hq ?_)
 by_cases hs:t= []∨sp t=true
 ·rw [uJ hs] at hQ
  rw [if_pos hs]
  refine wg (.f rfl (.t rfl (.t (aA (aC (lk 1 rfl) hlen) rfl) (.t (aA (aC (aC (lk 1 rfl) hlen) (lk 1 rfl)) rfl) .n)))) rfl ?_
  exact hQ
 ·rw [yw hs] at hQ
  rw [if_neg hs]
  refine wg .n rfl ?_
  exact hQ
noncomputable def dg(c:Nat):Bool:= !(([93,91,36,59,92,9,11,12,13,123,125,35]:List Nat).contains c)
theorem yx{c k:Nat}(h:dg c=true)(hk:dg k=false): ¬c=k:=fun e=>nomatch (h.symm.trans (e▸hk):true=false)
noncomputable def jF(c:Nat):Bool:=c==34 || (c==32 || c==10)
theorem Ui{s:MS}{c:Nat}(h1: ¬c=123)(h2: ¬c=125):gf s c=⟨s.d,s.b || jF c,s.we || c==34,s.wb || (c==32 || c==10)⟩:=by
 obtain ⟨d,b,we,wb⟩:=s
 unfold gf jF
 rw [if_neg h1,if_neg h2]
 by_cases h3:c=34
 ·subst h3
  rw [if_pos rfl]
  show MS.mk d true true wb=MS.mk d (b || true) (we || true) (wb || false)
  rw [Bool.or_true,Bool.or_true,Bool.or_false]
 ·rw [if_neg h3,aM h3]
  have e:(c==32 || c==10)=decide (c=32∨c=10):=(Bool.decide_or ..).symm
  rw [Bool.false_or,e]
  by_cases h4:c=32∨c=10
  ·rw [if_pos h4,aL h4,Bool.or_true,Bool.or_true,Bool.or_false]
  ·rw [if_neg h4,bc h4,Bool.or_false,Bool.or_false,Bool.or_false]
theorem Hm:∀(t:Txt) (s:MS),(∀c∈t,dg c=true)→0≤s.d→qW s t∧t.foldl gf s=⟨s.d,s.b || t.any jF,s.we || t.any (· ==34),s.wb || t.any fun c=>c==32 || c==10⟩
 | [],s,_,_=>⟨trivial,by show s=MS.mk s.d (s.b || false) (s.we || false) (s.wb || false);rw [Bool.or_false,Bool.or_false,Bool.or_false]⟩
 | c::r,s,h,hd=>by
  have e:=Ui (s:=s) (yx (h c List.mem_cons_self) rfl) (yx (h c List.mem_cons_self) rfl)
  have hd':0≤(gf s c).d:=by rw [e];exact hd
  obtain ⟨i1,i2⟩:=Hm r (gf s c) (fun x m=>h x (List.mem_cons_of_mem _ m)) hd'
  refine ⟨⟨hd',i1⟩, ?_⟩
  rw [List.foldl_cons,i2,e]
  show MS.mk s.d ((s.b || jF c) || r.any jF) _ _=MS.mk s.d (s.b || (jF c || r.any jF)) (s.we || (_ || _)) (s.wb || (_ || _))
  rw [Bool.or_assoc,Bool.or_assoc,Bool.or_assoc]
theorem Uj(a c:Nat):(a==c)=(c==a):=by
 by_cases h:c=a
 ·rw [aR h,aR h.symm]
 ·rw [aM h,aM (Ne.symm h)]
theorem uK(a:Nat):∀t:Txt,t.contains a=t.any (· ==a)
 | []=>rfl
 | c::r=>by rw [List.contains_cons,List.any_cons,uK a r,Uj]
theorem yz{α:Type}(p q:α→Bool):∀t:List α,(t.any p || t.any q)=t.any fun c=>p c || q c
 | []=>rfl
 | c::r=>by
  rw [List.any_cons,List.any_cons,List.any_cons,←yz p q r]
  induction p c using Bool.casesOn with
  | true=>rfl
  | false=>induction q c using Bool.casesOn with
   | true=>exact Bool.or_true _
   | false=>rfl
theorem Hn(t:Txt):sp t=t.any fun c=>c==32 || c==10:=by unfold sp;rw [uK,uK,yz]
structure gW(t:Txt):Prop where
 len:t.length≤100000
 ok:t.all dg=true
 q:t.contains 34=true→sp t=true
theorem gW.qok{t:Txt}(h:gW t):kj t:=by
 have hall:∀c∈t,dg c=true:=List.all_eq_true.1 h.ok
 obtain ⟨f1,f2⟩:=Hm t (uI t) hall (Int.le_refl 0)
 have hok:∀c,dg c=true→m9 c:=fun c e=>by
  unfold m9 uH
  rw [Bool.not_eq_true']
  refine Bool.not_eq_true _▸fun z=> ?_
  have m:=List.contains_iff_mem.1 z
  have e':(([93,91,36,59,92,9,11,12,13,123,125,35]:List Nat).contains c)=true:=List.contains_iff_mem.2 (List.mem_append_left [123,125,35] m)
  unfold dg at e
  rw [e'] at e
  exact bz e
 have hh:∀k,dg k=false→t.head? ≠some k:=fun k hk e=>yx (hall k (List.mem_of_mem_head? e)) hk rfl
 have hb:bq t=(t.head? ==some 34):=by
  unfold bq
  rw [aM (hh 123 rfl)];rfl
 have h34:bq t=true→t.any (· ==34)=true:=fun e=>by
  rw [hb] at e
  exact List.any_eq_true.2 ⟨34,List.mem_of_mem_head? (eq_of_beq e),rfl⟩
 have hq:=h.q
 rw [Hn,uK] at hq
 have hB:t.any jF=t.any fun c=>c==32 || c==10:=by
  unfold jF
  rw [←yz]
  induction e:t.any (· ==34) using Bool.casesOn with
  | true=>rw [hq e];rfl
  | false=>rfl
 refine ⟨h.len,fun c m=>hok c (hall c m),hh 35 rfl,f1, ?_,fun zz=> ?_,fun hw=> ?_⟩
 ·exact congrArg MS.d f2
 ·refine (congrArg MS.b f2).trans ?_
  show (bq t || t.any jF)=sp t
  rw [hB,Hn]
  induction e:bq t using Bool.casesOn with
  | true=>rw [hq (h34 e)];rfl
  | false=>rfl
 ·have hw':(false || t.any (· ==34))=true:=(congrArg MS.we f2).symm.trans hw
  refine (congrArg MS.wb f2).trans ?_
  show (bq t || _)=true
  rw [hq hw',Bool.or_true]
theorem Ho{t:Txt}(h:t.all uH=true):∀c∈t,m9 c:=List.all_eq_true.1 h
noncomputable def Hp(s:MS):Txt→Bool
 | []=>true
 | c::r=>decide (0≤(gf s c).d) && Hp (gf s c) r
theorem yC:∀{t:Txt} {s:MS},Hp s t=true→qW s t
 | [],_,_=>trivial
 | _::_,_,h=>⟨of_decide_eq_true (Bool.and_eq_true_iff.1 h).1,yC (Bool.and_eq_true_iff.1 h).2⟩
theorem Uk:∀n,kj (gV n)
 | 0=>⟨lk 100000 rfl,Ho rfl,by decide,yC rfl,rfl,fun zz=>rfl,fun h=>nomatch h⟩
 | 1=>⟨lk 100000 rfl,Ho rfl,by decide,yC rfl,rfl,fun zz=>rfl,fun h=>nomatch h⟩
 | _+2=>gW.qok ⟨lk 100000 rfl,rfl,fun h=>nomatch h⟩
theorem yD:∀(l:List Txt),bU (l.map V.str)=some l
 | []=>rfl
 | a::r=>by rw [List.map_cons,bU,yD r];rfl
noncomputable def km(ts:List Txt):Nat:=(ts.map fun t=>t.length+3).sum
theorem yE:∀ts:List Txt,((ts.map qT).map (·.length)).sum+(ts.map qT).length*1≤km ts
 | []=>Nat.le_refl 0
 | a::r=>by
  have h:=Ud a
  have k:=yE r
  show (qT a).length+((r.map qT).map (·.length)).sum+((r.map qT).length+1)*1≤(a.length+2+1)+km r
  rw [Nat.mul_one] at k ⊢
  rw [←Nat.add_assoc,Nat.add_assoc (qT a).length,Nat.add_right_comm (a.length+2) 1]
  exact Nat.succ_le_succ (Nat.add_le_add h k)
noncomputable def qY(ts:List Txt):Txt:=jO [32] (ts.map qT)
theorem yF{α β:Type}(acc:List α)(x:α)(r:List β):acc.length+(r.length+1)=(acc++ [x]).length+r.length:=by
 rw [List.length_append];exact (Nat.succ_add_eq_add_succ ..).symm
theorem Hq{N d:Nat}{C:aO}(hC:C=au tab N (d+4)){hd:Option Nat}{H0:MH}{o:Nat}{v:V}{body:List St}(hb:tB.body[1]? =some (.each (.name "item") false (.loc "items") body)){Q:QS}{src:MH→Prop}
  (hN:200000≤N) (hsrc:∀l,src (H0.upd o (.list l))):
  ∀(ts acc:List Txt) (tl:Loc),(∀t∈ts,kj t)→acc.length+ts.length<1000→
   (∀tl,Q .next (("items",v)::("out", .ref o)::tl) (H0.upd o (.list ((acc++ts.map qT).map V.str))))→
   cT C N hd (.name "item") body src (ts.map V.str) (("items",v)::("out", .ref o)::tl) (H0.upd o (.list (acc.map V.str))) Q:=by
 cases hb
 intro ts
 induction ts with
 | nil=>
  intro acc tl _ _ hQ
  rw [List.map_nil,List.append_nil] at hQ
  exact fW (hsrc _) (hQ tl)
 | cons t r ih=>
  intro acc tl hq hlen hQ
  have ha:(acc.map V.str).length≤1000:=by rw [List.length_map];exact Nat.le_trans (Nat.le_add_right _ _) (Nat.le_of_lt hlen)
  refine fX hC (hsrc _) ?_
  refine wg (.o aq (.v aP (.o aq (.t (aA ha rfl) .n)))) rfl ?_
  refine cu hC (Uh hN (hq t List.mem_cons_self) ?_)
  refine wg (.o aq (.t (cU ha rfl) .n)) rfl ?_
  have:=ih (acc++ [qT t]) (bu tl "item" (.str t)) (fun x m=>hq x (List.mem_cons_of_mem _ m)) (yF ..▸hlen) (fun l=>by rw [List.append_assoc];exact hQ l)
  rw [List.map_append] at this
  exact (congrArg (fun h=>cT C N hd _ _ src _ _ h Q) (m8 ..)).mpr this
theorem yG{N d:Nat}{hd:Option Nat}{v:V}{ts:List Txt}{H:MH}{Q:Q1}{E:E1}(hN:200000≤N)
  (hv:v= .tup (ts.map V.str)∨∃a,v= .ref a∧H a=some (.list (ts.map V.str))) (hq:∀t∈ts,kj t) (hn:ts.length<900) (ht:km ts≤10000000)
  (hQ:∀H',Le H H'→Q (.str (qY ts)) H'):
  au tab N (d+5) hd (.con (.ref 624)) [v] H Q E:=by
 refine kf tB rfl rfl fun C hC=> ?_
 refine wg .n rfl ?_
 intro z hz
 have hs2:bU (List.map V.str (([]:List Txt)++List.map qT ts))=some (ts.map qT):=yD _
 have fin:∀tl,(bA C true N hd (tB.body.drop 2) (("items",v)::("out", .ref z)::tl) (H.upd z (.list ((([]:List Txt)++ts.map qT).map V.str))) (cz Q) (cJ E)).P:=fun tl=>by
  refine wg .n rfl ?_
  exact Hf aq hs2 (Nat.le_trans (yE ts) (Nat.le_trans ht (Nat.le_of_ble_eq_true rfl))) (hQ _ (Le.new _ hz))
 have hl:([]:List Txt).length+ts.length<1000:=by rw [List.length_nil,Nat.zero_add];exact Nat.lt_trans hn (Nat.lt_of_sub_ne_zero fun h=>nomatch h)
 rcases hv with rfl | ⟨a,rfl,ha⟩
 ·refine wg .n rfl ?_
  exact Hq hC (acc:= []) rfl hN (fun l=>trivial) ts [] hq hl fin
 ·refine wg (.o (bx hz ha) .n) rfl ?_
  exact Hq hC (acc:= []) rfl hN (fun l=>bx hz ha) ts [] hq hl fin
noncomputable def jf(i:Int):Prop:=i∈([-1,0,1,2,3,4,5,6,40]:List Int)
noncomputable def lit(t:Txt):Bool:=t.all dg && (Nat.ble t.length 1000 && !t.contains 34)
theorem qZ{t:Txt}(h:lit t=true):gW t:=
 have h1:=Bool.and_eq_true_iff.1 h
 have h2:=Bool.and_eq_true_iff.1 h1.2
 ⟨fY (Nat.le_of_ble_eq_true h2.1) rfl,h1.1,fun e=>nomatch ((congrArg (!·) e).symm.trans h2.2:false=true)⟩
theorem jf.plain{i:Int}(h:jf i):gW (eF i)∧(eF i).length≤2∧i.natAbs<10000000000:=by
 have a:([-1,0,1,2,3,4,5,6,40]:List Int).all (fun i=>lit (eF i) && (Nat.ble (eF i).length 2 && Nat.blt i.natAbs 10000000000))=true:=by decide
 have b:=Bool.and_eq_true_iff.1 (List.all_eq_true.1 a i h)
 have c:=Bool.and_eq_true_iff.1 b.2
 exact ⟨qZ b.1,Nat.le_of_ble_eq_true c.1,Nat.le_of_ble_eq_true c.2⟩
structure bO(f:aK):Prop where
 val:gW f.val
 vlen:f.val.length≤10
 info:gW f.info
 ilen:f.info.length≤5000
 code:jf f.code
 lvl:jf f.lvl
 ret:jf f.ret
 nt:f.code≠1→f.ec=2∧f.info= []
noncomputable def fC(f:aK):Txt:=if f.info= [] then f.val else f.info
noncomputable def dG(f:aK):List Txt:=if f.code=2 then [[45,99,111,100,101],eF f.ret,[45,108,101,118,101,108],eF f.lvl] else [[45,99,111,100,101],eF f.code,[45,108,101,118,101,108],[48]]
noncomputable def eX(f:aK):List Txt:=if f.code=1 then [[45,101,114,114,111,114,99,111,100,101],gV f.ec,[45,101,114,114,111,114,105,110,102,111],fC f] else []
noncomputable def o7(f:aK):List Txt:=if f.ex then [[45,120],[121,32,122]] else []
noncomputable def gG(f:aK):List Txt:=dG f++eX f++o7 f
noncomputable def o8:Option aK→Txt
 | none=> [45,99,111,100,101,32,48,32,45,108,101,118,101,108,32,48]
 | some f=>qY (gG f)
structure bK(n k:Nat)(ts:List Txt):Prop where
 q:∀t∈ts,kj t
 n:ts.length≤n
 k:km ts≤k
theorem bK.nil:bK 0 0 []:=⟨fun zz m=>(nomatch m),Nat.le_refl 0,Nat.le_refl 0⟩
theorem bK.cons{n m l:Nat}{t:Txt}{ts:List Txt}(h:kj t)(hl:t.length≤l)(r:bK n m ts):bK (n+1) (l+3+m) (t::ts):=
 ⟨fun x hx=>(List.mem_cons.1 hx).elim (fun e=>e▸h) (r.q x),Nat.succ_le_succ r.n,Nat.add_le_add (Nat.add_le_add_right hl 3) r.k⟩
theorem bK.lit{n m l:Nat}{t:Txt}{ts:List Txt}(h:Mine.lit t=true)(hl:Nat.ble t.length l=true)(r:bK n m ts):bK (n+1) (l+3+m) (t::ts):= .cons (qZ h).qok (Nat.le_of_ble_eq_true hl) r
theorem bK.app{n m k l:Nat}{a b:List Txt}(h:bK n k a)(r:bK m l b):bK (n+m) (k+l) (a++b):=
 ⟨fun x hx=>(List.mem_append.1 hx).elim (h.q x) (r.q x),by rw [List.length_append];exact Nat.add_le_add h.n r.n,by unfold km;rw [List.map_append,List.sum_append];exact Nat.add_le_add h.k r.k⟩
theorem bK.up{n m k l:Nat}{a:List Txt}(h:bK n k a)(e:Nat.ble n m=true)(e':Nat.ble k l=true):bK m l a:=⟨h.q,Nat.le_trans h.n (Nat.le_of_ble_eq_true e),Nat.le_trans h.k (Nat.le_of_ble_eq_true e')⟩
theorem yH{p:Prop}[Decidable p]{n k:Nat}{a b:List Txt}(h:bK n k a)(h':bK n k b):bK n k (if p then a else b):=by
 by_cases e:p
 ·rw [if_pos e];exact h
 ·rw [if_neg e];exact h'
theorem bK.none{n k:Nat}:bK n k []:=⟨fun zz m=>(nomatch m),Nat.zero_le _,Nat.zero_le _⟩
theorem Hr{f:aK}(h:bO f):bK 10 10000 (gG f):=by
 have hi:kj (fC f)∧(fC f).length≤5000:=by
  unfold fC
  by_cases e:f.info= []
  ·rw [if_pos e];exact ⟨h.val.qok,fY h.vlen rfl⟩
  ·rw [if_neg e];exact ⟨h.info.qok,h.ilen⟩
 have hc:=h.code.plain
 have hl:=h.lvl.plain
 have hr:=h.ret.plain
 have hel:(gV f.ec).length≤7:=match f.ec with
  | 0=>lk 7 rfl
  | 1=>lk 7 rfl
  | _+2=>lk 7 rfl
 have b:bK 4 30 (dG f):=yH ((bK.lit (l:=5) rfl rfl (.cons hr.1.qok hr.2.1 (.lit (l:=6) rfl rfl (.cons hl.1.qok hl.2.1 .nil)))).up rfl rfl) ((bK.lit (l:=5) rfl rfl (.cons hc.1.qok hc.2.1 (.lit (l:=6) rfl rfl (.lit (l:=1) rfl rfl .nil)))).up rfl rfl)
 have c:bK 4 5100 (eX f):=yH ((bK.lit (l:=10) rfl rfl (.cons (Uk _) hel (.lit (l:=10) rfl rfl (.cons hi.1 hi.2 .nil)))).up rfl rfl) .none
 have d:bK 2 100 (o7 f):=yH ((bK.lit (l:=5) rfl rfl (.lit (l:=5) rfl rfl .nil)).up rfl rfl) .none
 exact ((b.app c).app d).up rfl rfl
theorem Ht{t:Txt}(h:t.contains 32=true):sp t=true:=by unfold sp;rw [h];rfl
theorem Ul{t:Txt}(h:t.contains 10=true):sp t=true:=by unfold sp;rw [h,Bool.or_true]
theorem Um{t:Txt}(h:t.contains 32=false)(h':t.contains 10=false): ¬sp t=true:=by unfold sp;rw [h,h'];exact Bool.false_ne_true
theorem Hu{N d:Nat}{C:aO}(hC:C=au tab N (d+1)){hd:Option Nat}{elt:X}{r:X}{ifs:List X}(hb:wV.body[0]? =some (.ret (.meth (.k (.str [32])) "join" [.comp elt "text" false r ifs])))
  {src:MH→Prop} {H:MH} {loc:Loc} {Q:List V→MH→Prop} (hs:src H):
  ∀(ts acc:List Txt),km ts≤10000000→Q ((acc++ts.map qT).map V.str) H→iw C hd elt "text" ifs src loc (ts.map V.str) (acc.map V.str) H Q:=by
 cases hb
 intro ts
 induction ts with
 | nil=>
  intro acc _ hQ
  rw [List.map_nil,List.append_nil] at hQ
  exact uv hs hQ
 | cons t r ih=>
  intro acc ht hQ
  have ht:(t.length+3)+km r≤10000000:=ht
  have next:=ih (acc++ [qT t]) (Nat.le_trans (Nat.le_add_left _ _) ht) (by rw [List.append_assoc];exact hQ)
  rw [List.map_append] at next
  refine oZ hC hs ?_
  have lt:t.length≤10000000:=Nat.le_trans (Nat.le_add_right _ _) (Nat.le_trans (Nat.le_add_right _ _) ht)
  have g:=aP (l:=loc) (x:="text") (v:= .str t)
  by_cases h0:t= []
  ·subst h0
   refine wg (.v g (.v g .n)) rfl ?_
   exact next
  ·induction h1:t.contains 32 using Bool.casesOn with
   | true=>
    rw [uJ (.inr (Ht h1))] at next
    refine wg (.v g (.f (aM h0) (.v g (.t h1 (.t h1 (.v g (.t (aA (aC (lk 1 rfl) lt) rfl) (.t (aA (aC (aC (lk 1 rfl) lt) (lk 1 rfl)) rfl) .n)))))))) rfl ?_
    exact next
   | false=>
    induction h2:t.contains 10 using Bool.casesOn with
    | true=>
     rw [uJ (.inr (Ul h2))] at next
     refine wg (.v g (.f (aM h0) (.v g (.f h1 (.v g (.t h2 (.t h2 (.v g (.t (aA (aC (lk 1 rfl) lt) rfl) (.t (aA (aC (aC (lk 1 rfl) lt) (lk 1 rfl)) rfl) .n)))))))))) rfl ?_
     exact next
    | false=>
     rw [yw fun e=>e.elim h0 (Um h1 h2)] at next
     refine wg (.v g (.f (aM h0) (.v g (.f h1 (.v g (.f h2 (.v g .n))))))) rfl ?_
     exact next
theorem yI{N d:Nat}{hd:Option Nat}{v:V}{ts:List Txt}{H:MH}{Q:Q1}{E:E1}
  (hv:v= .tup (ts.map V.str)∨∃a,v= .ref a∧H a=some (.list (ts.map V.str))) (hn:ts.length<900) (ht:km ts≤10000000)
  (hQ:∀H',Le H H'→Q (.str (qY ts)) H'):
  au tab N (d+2) hd (.con (.ref 926)) [v] H Q E:=by
 refine kf wV rfl rfl fun C hC=> ?_
 have hl:(ts.map V.str).length≤900:=by rw [List.length_map];exact Nat.le_of_lt hn
 have hs2:bU (List.map V.str (([]:List Txt)++List.map qT ts))=some (ts.map qT):=yD _
 have fin:∀z,H z=none→mX .join (.str [32]) [.ref z] (H.upd z (.list ((([]:List Txt)++ts.map qT).map V.str))) Q:=fun z hz=>
  Hf aq hs2 (Nat.le_trans (yE ts) (Nat.le_trans ht (Nat.le_of_ble_eq_true rfl))) (hQ _ (Le.new _ hz))
 rcases hv with rfl | ⟨a,rfl,ha⟩
 ·refine wg (.t (aA hl rfl) .n) rfl ?_
  exact Hu hC (acc:= []) rfl trivial ts ht fun z hz=>by
   refine wg .n rfl ?_
   exact fin z hz
 ·refine wg (.o ha (.t (aA hl rfl) .n)) rfl ?_
  exact Hu hC (acc:= []) rfl ha ts ht fun z hz=>by
   refine wg .n rfl ?_
   exact fin z hz
theorem Hv:qY [[65],[98,32,99]]= [65,32,123,98,32,99,125]:=by decide
theorem Hw:qY [[78,79,78,69]]= [78,79,78,69]:=by decide
theorem rm:bK 2 10 [[65],[98,32,99]]:=(bK.lit (l:=1) rfl rfl (.lit (l:=3) rfl rfl .nil)).up rfl rfl
theorem rn:bK 2 10 [[78,79,78,69]]:=(bK.lit (l:=4) rfl rfl .nil).up rfl rfl
theorem bK.n9{n k:Nat}{ts:List Txt}(h:bK n k ts)(e:Nat.blt n 900=true):ts.length<900:=Nat.lt_of_le_of_lt h.n (Nat.le_of_ble_eq_true e)
theorem bK.k9{n k:Nat}{ts:List Txt}(h:bK n k ts)(e:Nat.ble k 10000000=true):km ts≤10000000:=Nat.le_trans h.k (Nat.le_of_ble_eq_true e)
theorem yJ{N d:Nat}{hd:Option Nat}{n:Nat}{H:MH}{Q:Q1}{E:E1}(hQ:∀H',Le H H'→Q (.str (gV n)) H'):
  au tab N (d+3) hd (.con (.ref 933)) [je n] H Q E:=by
 refine kf CX rfl rfl fun C hC=> ?_
 match n with
 | 0=>
  refine wg .n rfl ?_
  exact cu hC (yI (ts:= [[65],[98,32,99]]) (.inl rfl) (rm.n9 rfl) (rm.k9 rfl) (Hv▸hQ))
 | 1=>
  refine wg .n rfl ?_
  exact hQ _ (Le.refl _)
 | (n+2)=>
  refine wg .n rfl ?_
  exact cu hC (yI (ts:= [[78,79,78,69]]) (.inl rfl) (rn.n9 rfl) (rn.k9 rfl) (Hw▸hQ))
theorem yK{N d:Nat}{hd:Option Nat}{n:Nat}{H:MH}{Q:Q1}{E:E1}(hN:200000≤N)(hQ:∀H',Le H H'→Q (.str (gV n)) H'):
  au tab N (d+6) hd (.con (.ref 631)) [je n] H Q E:=by
 refine kf Ce rfl rfl fun C hC=> ?_
 match n with
 | 0=>
  refine wg .n rfl ?_
  exact cu hC (yG (ts:= [[65],[98,32,99]]) hN (.inl rfl) rm.q (rm.n9 rfl) (rm.k9 rfl) (Hv▸hQ))
 | 1=>
  refine wg .n rfl ?_
  exact hQ _ (Le.refl _)
 | (n+2)=>
  refine wg .n rfl ?_
  exact cu hC (yG (ts:= [[78,79,78,69]]) hN (.inl rfl) rn.q (rn.n9 rfl) (rn.k9 rfl) (Hw▸hQ))
theorem Hx{N d:Nat}{hd:Option Nat}{f:aK}{a x:Nat}{H:MH}{Q:Q1}{E:E1}(ha:H a=some (cG f x))(hQ:Q (.str (fC f)) H):
  au tab N (d+1) hd (.con (.ref 638)) [.ref a] H Q E:=by
 refine k0 Cg rfl rfl fun C hC=> ?_
 unfold fC at hQ
 by_cases h:f.info= []
 ·rw [if_pos h] at hQ
  refine wg (.o ha (.t (aR h) (.o ha .n))) rfl ?_
  exact hQ
 ·rw [if_neg h] at hQ
  refine wg (.o ha (.f (aM h) (.o ha .n))) rfl ?_
  exact hQ
theorem yL{α:Type}{p:Prop}[Decidable p]{a b:List α}{k:Nat}(ha:a.length≤k)(hb:b.length≤k):(if p then a else b).length≤k:=by
 by_cases e:p
 ·rw [if_pos e];exact ha
 ·rw [if_neg e];exact hb
theorem yM(f:aK):(dG f).length≤4:=yL (lk 4 rfl) (lk 4 rfl)
theorem Hy(f:aK):(eX f).length≤4:=yL (lk 4 rfl) (lk 4 rfl)
theorem cM{ts:List Txt}{k:Nat}(h:ts.length≤k):(ts.map V.str).length≤k:=by rw [List.length_map];exact h
theorem Hz:cB true= .list [.tup [.str [45,120], .str [121,32,122]]]:=rfl
theorem HD:cB false= .list []:=rfl
theorem ru{a b c:List Txt}(e:a++b=c):a.map V.str++b.map V.str=c.map V.str:=by rw [←e,List.map_append]
theorem Un{N d:Nat}{hd:Option Nat}{f:aK}{a x:Nat}{H:MH}{Q:Q1}{E:E1}(ha:H a=some (d8 f x))(hx:H x=some (cB f.ex))(hf:bO f)
  (hQ:∀H',Le H H'→Q (.str (o8 (some f))) H'):
  au tab N (d+4) hd (.con (.ref 940)) [.ref a] H Q E:=by
 refine kf oh rfl rfl fun C hC=> ?_
 have hc:=hf.code.plain.2.2
 have hl:=hf.lvl.plain.2.2
 have hr:=hf.ret.plain.2.2
 have ho:=Hr hf
 have last:∀(t:Nat) (H2:MH),Le H H2→H2 t=some (.list ((dG f++eX f).map V.str))→
   (bA C true N hd (oh.body.drop 4) [("fault", .ref a),("texts", .ref t)] H2 (cz Q) (cJ E)).P:=by
  intro t H2 le2 ht2
  have he4:((dG f++eX f).map V.str).length≤8:=cM (aC (yM f) (Hy f))
  have hz:∀(t':Nat) (H3:MH) (tl:Loc),Le H H3→H3 t'=some (.list ((gG f).map V.str))→
    (bA C true N hd (oh.body.drop 5) (("fault", .ref a)::("texts", .ref t')::tl) H3 (cz Q) (cJ E)).P:=by
   intro t' H3 tl le3 ht3
   refine wg .n rfl ?_
   refine cu hC (yI (ts:=gG f) (.inr ⟨_,rfl,ht3⟩) (ho.n9 rfl) (ho.k9 rfl) ?_)
   intro H' le'
   exact hQ _ (le3.trans le')
  induction e:f.ex using Bool.casesOn with
  | false=>
   rw [e,HD] at hx
   have ei:gG f=dG f++eX f:=by unfold gG o7;rw [e];exact List.append_nil _
   refine wg (.o (le2 _ _ ha) (.o (le2 _ _ hx) .n)) rfl ?_
   exact fW (le2 _ _ hx) (hz t H2 [] le2 (ei▸ht2))
  | true=>
   rw [e,Hz] at hx
   have ei:dG f++eX f++ [[45,120],[121,32,122]]=gG f:=by unfold gG o7;rw [e];rfl
   refine wg (.o (le2 _ _ ha) (.o (le2 _ _ hx) .n)) rfl ?_
   refine fX hC ?_ ?_
   ·exact le2 _ _ hx
   refine wg .n rfl ?_
   intro z hz0
   have l2:=Le.new (.list [V.str [45,120],V.str [121,32,122]]) hz0
   refine wg (.o (bx hz0 ht2) (.o aq (.t (aA (aC he4 (lk 2 rfl)) rfl) .n))) rfl ?_
   intro z' hz'
   have l3:=l2.trans (Le.new (.list (List.map V.str (dG f++eX f)++ [V.str [45,120],V.str [121,32,122]])) hz')
   exact fW (l3 _ _ (le2 _ _ hx)) (hz z' _ _ (le2.trans l3) (aq.trans (congrArg (fun l=>some (O.list l)) (ru ei))))
 have fin:∀(t:Nat) (H1:MH),Le H H1→H1 t=some (.list ((dG f).map V.str))→
   (bA C true N hd (oh.body.drop 3) [("fault", .ref a),("texts", .ref t)] H1 (cz Q) (cJ E)).P:=by
  intro t H1 le1 ht
  have hb4:=cM (yM f)
  by_cases h1:f.code=1
  ·have ec:∀i,fC f=i→ [[45,101,114,114,111,114,99,111,100,101],gV f.ec,[45,101,114,114,111,114,105,110,102,111],i]=eX f:=fun i e=>by unfold eX;rw [if_pos h1,e]
   refine wg (.o (le1 _ _ ha) (.t (aR h1) (.o (le1 _ _ ha) .n))) rfl ?_
   refine cu hC (yJ ?_)
   intro H2 le2
   by_cases hi:f.info= []
   ·refine wg (.o (le2 _ _ (le1 _ _ ha)) (.f (bY (aR hi)) (.o (le2 _ _ (le1 _ _ ha)) .n))) rfl ?_
    intro z hz
    refine wg (.o (bx hz (le2 _ _ ht)) (.o aq (.t (aA (aC hb4 (lk 4 rfl)) rfl) .n))) rfl ?_
    intro z' hz'
    exact last z' _ (le1.trans (le2.trans ((Le.new _ hz).trans (Le.new _ hz')))) (aq.trans (congrArg (fun l=>some (O.list l)) (ru (congrArg (dG f++ ·) (ec _ (if_pos hi))))))
   ·refine wg (.o (le2 _ _ (le1 _ _ ha)) (.t (j8 (aM hi)) (.o (le2 _ _ (le1 _ _ ha)) .n))) rfl ?_
    intro z hz
    refine wg (.o (bx hz (le2 _ _ ht)) (.o aq (.t (aA (aC hb4 (lk 4 rfl)) rfl) .n))) rfl ?_
    intro z' hz'
    exact last z' _ (le1.trans (le2.trans ((Le.new _ hz).trans (Le.new _ hz')))) (aq.trans (congrArg (fun l=>some (O.list l)) (ru (congrArg (dG f++ ·) (ec _ (if_neg hi))))))
  ·have eo:eX f= []:=if_neg h1
   refine W.exec_ok _ (.o (le1 _ _ ha) (.f (aM h1) .z)) rfl ?_
   exact last t H1 le1 (by rw [eo,List.append_nil];exact ht)
 by_cases h2:f.code=2
 ·have eo:dG f=_:=if_pos h2
  rw [eo] at fin
  refine wg (.o ha (.t (aL hc) .n)) rfl ?_
  intro z hz
  refine wg (.o (bx hz ha) (.t (aR h2) (.o (bx hz ha) (.t (aL hr) (.o (bx hz ha) (.t (aL hl) .n)))))) rfl ?_
  intro z' hz'
  exact fin z' _ ((Le.new _ hz).trans (Le.new _ hz')) aq
 ·have eo:dG f=_:=if_neg h2
  rw [eo] at fin
  refine wg (.o ha (.t (aL hc) .n)) rfl ?_
  intro z hz
  refine W.exec_ok _ (.o (bx hz ha) (.f (aM h2) .z)) rfl ?_
  exact fin z _ (Le.new _ hz) aq
theorem Uo{N d:Nat}{hd:Option Nat}{H:MH}{Q:Q1}{E:E1}(hQ:Q (.str (o8 none)) H):
  au tab N (d+1) hd (.con (.ref 940)) [.none] H Q E:=by
 refine k0 oh rfl rfl fun C hC=> ?_
 exact hQ
theorem Up{N d:Nat}{hd:Option Nat}{H:MH}{Q:Q1}{E:E1}(hQ:Q (.str (o8 none)) H):
  au tab N (d+1) hd (.con (.ref 652)) [.none] H Q E:=by
 refine k0 qg rfl rfl fun C hC=> ?_
 exact hQ
theorem Le.old{H H1:MH}{z:Nat}(le1:Le H H1)(h1:H1 z=none):H z=none:=by
 induction h:H z using Option.casesOn with
 | none=>rfl
 | some o=>exact nomatch (le1 _ _ h).symm.trans h1
theorem Uq{N d:Nat}{hd:Option Nat}{f:aK}{a x:Nat}{H:MH}{Q:Q1}{E:E1}(hN:200000≤N)(ha:H a=some (cG f x))(hf:bO f)
  (hQ:∀z H',H z=none→Le H H'→H' z=some (.list ((eX f).map V.str))→Q (.ref z) H'):
  au tab N (d+7) hd (.con (.ref 645)) [.ref a] H Q E:=by
 refine kf Ci rfl rfl fun C hC=> ?_
 refine wg (.o ha .n) rfl ?_
 refine cu hC (yK hN ?_)
 intro H1 le1
 by_cases h1:f.code=1
 ·have eo:eX f=_:=if_pos h1
  rw [eo] at hQ
  refine wg (.o (le1 _ _ ha) (.t (aR h1) .n)) rfl ?_
  refine cu hC (Hx (le1 _ _ ha) ?_)
  refine wg .n rfl ?_
  intro z hz
  exact hQ z _ (le1.old hz) (le1.trans (Le.new _ hz)) aq
 ·have eo:eX f=_:=if_neg h1
  rw [eo] at hQ
  obtain ⟨n1,n2⟩:=hf.nt h1
  refine wg (.o (le1 _ _ ha) (.f (aM h1) .n)) rfl ?_
  intro z hz
  have fin:Q (.ref z) (H1.upd z (.list [])):=hQ z _ (le1.old hz) (le1.trans (Le.new _ hz)) aq
  by_cases h2:f.code=2
  ·by_cases h3:f.ret=1
   ·have n3:(gV f.ec== [78,79,78,69])=true:=by rw [n1];rfl
    refine wg (.o (bx hz (le1 _ _ ha)) (.t (aR h2) (.o (bx hz (le1 _ _ ha)) (.t (aR h3) (.t rfl (.f (bY n3) (.o (bx hz (le1 _ _ ha)) (.f (bY (aR n2)) .n)))))))) rfl ?_
    exact fin
   ·refine wg (.o (bx hz (le1 _ _ ha)) (.t (aR h2) (.o (bx hz (le1 _ _ ha)) (.f (aM h3) (.f (aM h3) .n))))) rfl ?_
    exact fin
  ·refine wg (.o (bx hz (le1 _ _ ha)) (.f (aM h2) (.f (aM h2) .n))) rfl ?_
   exact fin
theorem Ur{N d:Nat}{hd:Option Nat}{f:aK}{a x:Nat}{H:MH}{Q:Q1}{E:E1}(hN:200000≤N)(ha:H a=some (cG f x))(hx:H x=some (cB f.ex))(hf:bO f)
  (hQ:∀H',Le H H'→Q (.str (o8 (some f))) H'):
  au tab N (d+8) hd (.con (.ref 652)) [.ref a] H Q E:=by
 refine kf qg rfl rfl fun C hC=> ?_
 have hc:=hf.code.plain.2.2
 have hl:=hf.lvl.plain.2.2
 have hr:=hf.ret.plain.2.2
 have ho:=Hr hf
 have hb4:=cM (yM f)
 have hb5:=cM (Hy f)
 have go:∀(c l:V) (z:Nat),H z=none→(bA C true N hd (qg.body.drop 5) [("raised", .ref a),("code",c),("level",l),("items", .ref z)] (H.upd z (.list ((dG f).map V.str))) (cz Q) (cJ E)).P:=by
  intro c l z hz
  have le0:=Le.new (.list ((dG f).map V.str)) hz
  refine wg (.o aq .n) rfl ?_
  refine cu hC (Uq hN (le0 _ _ ha) hf ?_)
  intro y H1 hy le1 hy1
  have hz1:=le1 _ _ aq
  have ne:=o4 aq hy
  have nea:=o4 ha hz
  have nex:=o4 hx hz
  have lez:Le H (H1.upd z (.list (List.map V.str (dG f)++List.map V.str (eX f)))):=(le0.trans le1).set hz
  have hz':∀(H3:MH) (tl:Loc),Le H H3→H3 z=some (.list ((gG f).map V.str))→
    (bA C true N hd (qg.body.drop 7) (("raised", .ref a)::("code",c)::("level",l)::("items", .ref z)::tl) H3 (cz Q) (cJ E)).P:=by
   intro H3 tl le3 ht3
   refine wg .n rfl ?_
   refine cu hC (yG (ts:=gG f) hN (.inr ⟨_,rfl,ht3⟩) ho.q (ho.n9 rfl) (ho.k9 rfl) ?_)
   intro H' le'
   exact hQ _ (le3.trans le')
  have hx2:=lez _ _ hx
  have ha1:=le1 _ _ (le0 _ _ ha)
  induction e:f.ex using Bool.casesOn with
  | false=>
   rw [e,HD] at hx2
   have ei:dG f++eX f=gG f:=by unfold gG o7;rw [e];exact (List.append_nil _).symm
   refine wg (.o hz1 (.o hy1 (.p ne (.t (aA (aC hb4 hb5) rfl) (.o (Hg nea ha1) (.o hx2 .n)))))) rfl ?_
   exact fW hx2 (hz' _ [] lez (aq.trans (congrArg (fun l=>some (O.list l)) (ru ei))))
  | true=>
   rw [e,Hz] at hx2
   have ei:dG f++eX f++ [[45,120],[121,32,122]]=gG f:=by unfold gG o7;rw [e];rfl
   refine wg (.o hz1 (.o hy1 (.p ne (.t (aA (aC hb4 hb5) rfl) (.o (Hg nea ha1) (.o hx2 .n)))))) rfl ?_
   refine fX hC ?_ ?_
   ·exact hx2
   refine wg (.o aq .n) rfl ?_
   intro w hw
   have l2:=Le.new (.list [V.str [45,120],V.str [121,32,122]]) hw
   have nw:=o4 aq hw
   refine wg (.o (bx hw aq) (.o aq (.p nw (.t (aA (aC (aC hb4 hb5) (lk 2 rfl)) rfl) .n)))) rfl ?_
   refine fW ((d7 _ _ nex).trans (l2 _ _ hx2)) ?_
   refine hz' _ _ ((lez.trans l2).set hz) (aq.trans (congrArg (fun l=>some (O.list l)) ?_))
   rw [←ei,List.map_append,List.map_append]
   rfl
 by_cases h2:f.code=2
 ·have eo:dG f=_:=if_pos h2
  rw [eo] at go
  refine wg (.o ha (.t (aR h2) (.o ha (.o ha (.t (aL hr) (.t (aL hl) .n)))))) rfl ?_
  intro z hz
  exact go (.int f.ret) (.int f.lvl) z hz
 ·have eo:dG f=_:=if_neg h2
  rw [eo] at go
  refine wg (.o ha (.f (aM h2) (.t (aL hc) .n))) rfl ?_
  intro z hz
  exact go (.int f.code) (.int 0) z hz
theorem o9(m k:Nat):(m:Int).fmod (k:Int)=((m % k:Nat):Int):=by rw [Int.fmod_eq_emod_of_nonneg _ (Int.natCast_nonneg k),Int.natCast_emod]
theorem Us(m k:Nat):(m:Int).fdiv (k:Int)=((m / k:Nat):Int):=by rw [Int.fdiv_eq_ediv_of_nonneg _ (Int.natCast_nonneg k),Int.natCast_ediv]
theorem yN(m a b:Nat):((m:Int).fdiv (a:Int)).fmod (b:Int)=((m / a % b:Nat):Int):=by rw [Us,o9]
noncomputable def iG(k m:Nat):Int:=([0,1,2,3,4,([5,6, -1,40]:List Int)[m % 4]?.getD 0,0,1]:List Int)[k]?.getD 0
noncomputable def uL(k m:Nat):Int:=if k=2 then ([0,1,3]:List Int)[m / 3 % 3]?.getD 0 else 0
noncomputable def uM(k m:Nat):Int:=if k=2 then 1+(m:Int).fmod 3 else 0
noncomputable def pg(k m:Nat):Txt:=if k=7∧m / 3 % 2=1 then [116,111,108,100] else []
noncomputable def jG(k m:Nat):Bool:=decide (k=7∧m / 6 % 2=1)
noncomputable def HF(k m:Nat):Nat:=if k=7 then m % 3 else 2
noncomputable def dR(k:Nat)(v:Txt)(m:Nat):aK:=⟨iG k m,v,HF k m,uM k m,uL k m,pg k m,jG k m,false⟩
theorem rz{l:List Int}{k:Nat}(h:k<l.length):(l.map V.int)[k]? =some (.int (l[k]?.getD 0)):=by
 rw [List.getElem?_map,List.getElem?_eq_getElem h];rfl
theorem Ut(m:Nat):([V.tup [V.str [65],V.str [98,32,99]],V.str [67,32,123,100,32,101,125],V.tup [V.str [78,79,78,69]]]:List V)[m % 3]? =some (je (m % 3)):=by
 have h:m % 3<3:=Nat.mod_lt _ (Nat.zero_lt_succ 2)
 generalize m % 3=n at h
 exact gk h rfl fun n h=>gk h rfl fun n h=>gk h rfl fun n h=>absurd h (Nat.not_lt_zero _)
theorem yO{m a b:Nat}(h:m / a % b=1):((m:Int).fdiv (a:Int)).fmod (b:Int)=1:=by rw [yN,h];rfl
theorem yP{m a b:Nat}(h: ¬m / a % b=1): ¬((m:Int).fdiv (a:Int)).fmod (b:Int)=1:=by rw [yN];exact fun e=>h (Int.ofNat.inj e)
theorem HH{N d:Nat}{hd:Option Nat}{k m:Nat}{v:Txt}{H:MH}{Q:Q1}{E:E1}(hk:k<8)
  (hQ:∀z x H',H z=none→H x=none→z≠x→Le H H'→H' z=some (d8 (dR k v m) x)→H' x=some (cB (dR k v m).ex)→Q (.ref z) H'):
  au tab N (d+1) hd (.con (.ref 909)) [.int k, .str v, .int m] H Q E:=by
 refine k0 CT rfl rfl fun C hC=> ?_
 have last:∀H1 x,Le H H1→H1 x=none→∀z,(H1.upd x (cB (jG k m))) z=none→Q (.ref z) ((H1.upd x (cB (jG k m))).upd z (d8 (dR k v m) x)):=fun H1 x le1 hx z hz=>
  have le2:=Le.new (cB (jG k m)) hx
  have nx:=o4 aq hz
  hQ z x _ (le1.old (le2.old hz)) (le1.old hx) (Ne.symm nx) (le1.trans (le2.trans (Le.new _ hz))) aq ((d7 _ _ nx).trans aq)
 have pa:cP 4 ((m:Int).fmod 4)=some (m % 4):=by rw [show (m:Int).fmod 4=_ from o9 m 4];rfl
 have ca:=rz (l:= [5,6, -1,40]) (k:=m % 4) (Nat.mod_lt _ (Nat.zero_lt_succ 3))
 have cb:=rz (l:= [0,1,2,3,4,([5,6, -1,40]:List Int)[m % 4]?.getD 0,0,1]) hk
 refine wg .n rfl ?_
 intro y0 hy0
 refine wg (.o aq (.k pa (.v ca .n))) rfl ?_
 intro y1 hy1
 by_cases k7:k=7
 ·subst k7
  have pe:cP 3 ((m:Int).fmod 3)=some (m % 3):=by rw [show (m:Int).fmod 3=_ from o9 m 3];rfl
  have ec:=Ut m
  refine wg (.o aq .n) rfl ?_
  intro y2 hy2
  have tell:∀i e,pg 7 m=i→jG 7 m=e→dR 7 v m=⟨1,v,m % 3,0,0,i,e,false⟩:=fun i e h1 h2=>by rw [←h1,←h2];rfl
  by_cases i1:m / 3 % 2=1
  ·have j1:((m:Int).fdiv 3).fmod 2=1:=yO i1
   by_cases i2:m / 6 % 2=1
   ·have j2:((m:Int).fdiv 6).fmod 2=1:=yO i2
    have ee:jG 7 m=true:=aL ⟨rfl,i2⟩
    rw [tell _ _ (if_pos ⟨rfl,i1⟩) ee,ee] at last
    refine wg (.o aq (.k pe (.v ec (.f rfl (.f rfl (.t rfl (.t rfl (.t rfl (.t (aR j1) (.t rfl (.t rfl (.t rfl (.t rfl (.t (aR j2) .n)))))))))))))) rfl ?_
    intro x hx
    refine wg .n rfl ?_
    exact last _ x (((Le.new _ hy0).trans (Le.new _ hy1)).trans (Le.new _ hy2)) hx
   ·have j2: ¬((m:Int).fdiv 6).fmod 2=1:=yP i2
    have ee:jG 7 m=false:=bc fun e=>i2 e.2
    rw [tell _ _ (if_pos ⟨rfl,i1⟩) ee,ee] at last
    refine wg (.o aq (.k pe (.v ec (.f rfl (.f rfl (.t rfl (.t rfl (.t rfl (.t (aR j1) (.t rfl (.t rfl (.t rfl (.t rfl (.f (aM j2) (.f (aM j2) .n))))))))))))))) rfl ?_
    intro x hx
    refine wg .n rfl ?_
    exact last _ x (((Le.new _ hy0).trans (Le.new _ hy1)).trans (Le.new _ hy2)) hx
  ·have j1: ¬((m:Int).fdiv 3).fmod 2=1:=yP i1
   by_cases i2:m / 6 % 2=1
   ·have j2:((m:Int).fdiv 6).fmod 2=1:=yO i2
    have ee:jG 7 m=true:=aL ⟨rfl,i2⟩
    rw [tell _ _ (if_neg fun e=>i1 e.2) ee,ee] at last
    refine wg (.o aq (.k pe (.v ec (.f rfl (.f rfl (.t rfl (.t rfl (.t rfl (.f (aM j1) (.f (aM j1) (.t rfl (.t rfl (.t rfl (.t (aR j2) .n)))))))))))))) rfl ?_
    intro x hx
    refine wg .n rfl ?_
    exact last _ x (((Le.new _ hy0).trans (Le.new _ hy1)).trans (Le.new _ hy2)) hx
   ·have j2: ¬((m:Int).fdiv 6).fmod 2=1:=yP i2
    have ee:jG 7 m=false:=bc fun e=>i2 e.2
    rw [tell _ _ (if_neg fun e=>i1 e.2) ee,ee] at last
    refine wg (.o aq (.k pe (.v ec (.f rfl (.f rfl (.t rfl (.t rfl (.t rfl (.f (aM j1) (.f (aM j1) (.t rfl (.t rfl (.t rfl (.f (aM j2) (.f (aM j2) .n))))))))))))))) rfl ?_
    intro x hx
    refine wg .n rfl ?_
    exact last _ x (((Le.new _ hy0).trans (Le.new _ hy1)).trans (Le.new _ hy2)) hx
 ·have e7: ¬(k:Int)=7:=fun e=>k7 (Int.ofNat.inj e)
  have ee:jG k m=false:=bc fun e=>k7 e.1
  have ei:pg k m= []:=if_neg fun e=>k7 e.1
  have ec:HF k m=2:=if_neg k7
  by_cases k2:k=2
  ·subst k2
   have pr:cP 3 (((m:Int).fdiv 3).fmod 3)=some (m / 3 % 3):=by rw [show ((m:Int).fdiv 3).fmod 3=_ from yN m 3 3];rfl
   have er:=rz (l:= [0,1,3]) (k:=m / 3 % 3) (Nat.mod_lt _ (Nat.zero_lt_succ 2))
   refine wg (.o aq .n) rfl ?_
   intro y2 hy2
   refine wg (.o aq (.k pr (.v er .n))) rfl ?_
   intro x hx
   refine wg .n rfl ?_
   exact last _ x (((Le.new _ hy0).trans (Le.new _ hy1)).trans (Le.new _ hy2)) hx
  ·have e2: ¬(k:Int)=2:=fun e=>k2 (Int.ofNat.inj e)
   have tell:dR k v m=⟨iG k m,v,2,0,0,[],false,false⟩:=by
    unfold dR uM uL
    rw [if_neg k2,if_neg k2,ei,ee,ec]
   rw [tell,ee] at last
   refine wg (.o aq (.v cb (.f (aM e7) (.f (aM e2) (.f (aM e2) (.f (aM e7) (.f (aM e7) (.f (aM e7) (.f (aM e7) .n))))))))) rfl ?_
   intro x hx
   refine wg .n rfl ?_
   exact last _ x ((Le.new _ hy0).trans (Le.new _ hy1)) hx
theorem Uu{H:MH}{z:Nat}{xs:List V}{y:Int}{Q:Q1}(hz:H z=some (.list xs))(hl:Nat.ble xs.length 1000=true)(hy:y=0)(h:∀w,H w=none→Q (.ref w) (H.upd w (.list []))):mW .mul (.ref z) (.int y) H Q:=by
 rw [oV]
 show aa (bN (H z)) _
 rw [hz]
 exact aa.mk (x:=xs) rfl ⟨rfl,Nat.le_of_ble_eq_true hl,hy,h⟩
theorem Uv{N d:Nat}{hd:Option Nat}{c l r:Int}{v:Txt}{e:V}{H:MH}{Q:Q1}{E:E1}
  (hQ:∀x z H',H x=none→H z=none→Le H H'→H' x=some (.exc 84 [("code", .int c),("value", .str v),("errorcode",e),("level", .int l),("ret", .int r),("info", .str []),("is_noted", .bool false),("line", .int 0),("extra", .ref z)])→Q (.ref x) H'):
  au tab N (d+2) hd (.con (.ref 84)) [.int c, .str v,e, .int l, .int r] H Q E:=by
 refine m6 _ rfl rfl fun x hx=>k0 Be rfl rfl fun C hC=> ?_
 have C0:=(aj.base H).new (iV true 84) hx
 refine wg (.o aq (.o aq (.o aq (.o aq (.o aq (.o aq (.o aq (.o aq (.o aq .n))))))))) rfl ?_
 intro z hz
 have C1:=C0.set0.set0.set0.set0.set0.set0.set0.set0.new1 (o:= .list []) hz
 refine wg (.o (C1.at 0 rfl) .n) rfl ?_
 exact ⟨rfl,hQ x z _ hx (C0.set0.set0.set0.set0.set0.set0.set0.set0.fr.old hz) C1.set0.fr (C1.set0.at 0 rfl)⟩
noncomputable def gH(t:Txt):O:= .inst 105 [("script", .str t),("back", .none),("is_proc", .bool false),("label", .str [])]
theorem HJ{N d:Nat}{hd:Option Nat}{t:Txt}{H:MH}{Q:Q1}{E:E1}
  (hQ:∀x H',H x=none→Le H H'→H' x=some (gH t)→Q (.ref x) H'):
  au tab N (d+2) hd (.con (.ref 105)) [.str t] H Q E:=by
 refine m6 _ rfl rfl fun x hx=>k0 Bf rfl rfl fun C hC=> ?_
 have C0:=(aj.base H).new (iV false 105) hx
 refine wg (.o aq (.o aq (.o aq (.o aq .n)))) rfl ?_
 exact ⟨rfl,hQ x _ hx C0.set0.set0.set0.set0.fr aq⟩
noncomputable def rA(rows ranges names sources:Nat):O:= .inst 324 [("rows", .ref rows),("ranges", .ref ranges),("names", .ref names),("sources", .ref sources),("epoch", .int 0)]
theorem Uw{N d:Nat}{hd:Option Nat}{r g n s:Nat}{H:MH}{Q:Q1}{E:E1}
  (hQ:∀x H',H x=none→Le H H'→H' x=some (rA r g n s)→Q (.ref x) H'):
  au tab N (d+2) hd (.con (.ref 324)) [.ref r, .ref g, .ref n, .ref s, .int 0] H Q E:=by
 refine m6 _ rfl rfl fun x hx=>k0 Bt rfl rfl fun C hC=> ?_
 have C0:=(aj.base H).new (iV false 324) hx
 refine wg (.o aq (.o aq (.o aq (.o aq (.o aq .n))))) rfl ?_
 exact ⟨rfl,hQ x _ hx C0.set0.set0.set0.set0.set0.fr aq⟩
noncomputable def aY(c n:Nat)(pc:Int)(st sl ea:Nat)(cv:V):O:= .inst 191 [("code", .ref c),("nest", .ref n),("pc", .int pc),("stack", .ref st),("slots", .ref sl),("each", .ref ea),("caught",cv)]
theorem HN{N d:Nat}{hd:Option Nat}{c n r g nm s:Nat}{H:MH}{Q:Q1}{E:E1}(hc:H c=some (rA r g nm s))(hn:H nm=some (.list []))
  (hQ:∀x st sl ea H',H x=none→H st=none→st≠x→Le H H'→H' x=some (aY c n 0 st sl ea (.tup [.int 0, .str [], .none]))→H' st=some (.list [])→Q (.ref x) H'):
  au tab N (d+3) hd (.con (.ref 191)) [.ref c, .ref n] H Q E:=by
 refine m6 _ rfl rfl fun x hx=>kf Bj rfl rfl fun C hC=> ?_
 have C0:=(aj.base H).new (iV false 191) hx
 refine wg (.o aq (.o aq (.o aq .n))) rfl ?_
 intro st hst
 have C1:=C0.set0.set0.set0.new1 (o:= .list []) hst
 refine wg (.o (C1.at 0 rfl) .n) rfl ?_
 intro z hz
 have C2:=C1.set0.new1 (o:= .list [.none]) hz
 refine wg (.o (C2.fr _ _ hc) (.o (C2.fr _ _ hn) .n)) rfl ?_
 refine Uu (C2.at 1 rfl) rfl rfl fun sl hsl=> ?_
 have C3:=C2.new1 (o:= .list []) hsl
 refine wg (.o (C3.at 0 rfl) .n) rfl ?_
 intro ea hea
 have C4:=C3.set0.new1 (o:= .dict []) hea
 refine wg (.o ((C3.set0.new _ hea).at 1 rfl) (.o aq .n)) rfl ?_
 exact ⟨rfl,hQ x st sl ea _ hx (C0.set0.set0.set0.fr.old hst) (C4.ne' rfl 3 rfl) C4.set0.set0.fr aq (C4.set0.set0.at 4 rfl)⟩
noncomputable def d9(k v:Txt)(t:Nat)(n:Int):O:= .inst 345 [("kind", .str k),("value", .str v),("traces", .ref t),("is_busy", .bool false),("is_element", .bool false),("writes", .int n)]
theorem Ux{N d:Nat}{hd:Option Nat}{H:MH}{Q:Q1}{E:E1}
  (hQ:∀x t H',H x=none→Le H H'→H' x=some (d9 [110,111,110,101] [] t 0)→Q (.ref x) H'):
  au tab N (d+2) hd (.con (.ref 345)) [] H Q E:=by
 refine m6 _ rfl rfl fun x hx=>k0 Bu rfl rfl fun C hC=> ?_
 have C0:=(aj.base H).new (iV false 345) hx
 refine wg (.o aq (.o aq .n)) rfl ?_
 intro t ht
 have C1:=C0.set0.set0.new1 (o:= .list []) ht
 refine wg (.o (C1.at 0 rfl) (.o aq (.o aq (.o aq .n)))) rfl ?_
 exact ⟨rfl,hQ x t _ hx C1.set0.set0.set0.set0.fr aq⟩
noncomputable def fG(to il:Nat)(dep spent:Int)(vd cm fi:Nat):O:= .inst 586 [("tools", .ref to),("inline", .ref il),("limit", .int 40),("fuel", .none),("depth", .int dep),("spent", .int spent),("epoch", .int 0),("frame", .none),("coroutine", .none),("vars", .ref vd),("commands", .ref cm),("firsts", .ref fi)]
theorem Uy{N d x:Nat}{hd:Option Nat}{F H:MH}{Q:Q1}{E:E1}(C0:aj F [(x, .inst 586 [])] H)
  (hQ:∀to il H',aj F [(x, .inst 586 [("tools", .ref to),("inline", .ref il),("limit", .int 40),("fuel", .none),("depth", .int 0),("spent", .int 0),("epoch", .int 0),("frame", .none),("coroutine", .none)]),(il, .dict []),(to, .dict [])] H'→Q .none H'):
  au tab N (d+1) hd (.con (.ref 364)) [.ref x, .int 40, .none] H Q E:=by
 refine k0 Bv rfl rfl fun C hC=> ?_
 refine wg .n rfl ?_
 intro to hto
 have C1:=C0.new1 (o:= .dict []) hto
 refine wg (.o ((C0.new _ hto).at 1 rfl) .n) rfl ?_
 intro il hil
 have C2:=C1.set0.new1 (o:= .dict []) hil
 refine wg (.o ((((C0.new _ hto).set 1 _ rfl).new _ hil).at 2 rfl) (.o aq (.o aq (.o aq (.o aq (.o aq (.o aq (.o aq .n)))))))) rfl ?_
 exact hQ to il _ C2.set0.set0.set0.set0.set0.set0.set0.set0
theorem Uz{N d:Nat}{hd:Option Nat}{H:MH}{Q:Q1}{E:E1}
  (hQ:∀x to il vd cm fi H',aj H [(x,fG to il 0 0 vd cm fi),(fi, .dict []),(cm, .dict []),(vd, .dict []),(il, .dict []),(to, .dict [])] H'→Q (.ref x) H'):
  au tab N (d+3) hd (.con (.ref 586)) [] H Q E:=by
 refine m6 _ rfl rfl fun x hx=>k0 BL rfl rfl fun C hC=> ?_
 refine wg .n rfl ?_
 refine cu hC (Uy ((aj.base H).new _ hx) fun to il H1 C1=> ?_)
 refine wg .n rfl ?_
 intro vd hvd
 have C2:=C1.new1 (o:= .dict []) hvd
 refine wg (.o ((C1.new _ hvd).at 1 rfl) .n) rfl ?_
 intro cm hcm
 have C3:=C2.set0.new1 (o:= .dict []) hcm
 refine wg (.o ((((C1.new _ hvd).set 1 _ rfl).new _ hcm).at 2 rfl) .n) rfl ?_
 intro fi hfi
 have C4:=C3.set0.new1 (o:= .dict []) hfi
 refine wg (.o ((((((C1.new _ hvd).set 1 _ rfl).new _ hcm).set 2 _ rfl).new _ hfi).at 3 rfl) .n) rfl ?_
 exact ⟨rfl,hQ x to il vd cm fi _ C4.set0⟩
noncomputable def bf(H H':MH):MH:=fun a=>match H a with
 | none=>H' a
 | some _=>none
theorem bf.mk{H H':MH}{a:Nat}{o:O}(h:H a=none)(h':H' a=some o):bf H H' a=some o:=by
 unfold bf;rw [h];exact h'
theorem bf.inv{H H':MH}{a:Nat}{o:O}(h:bf H H' a=some o):H a=none∧H' a=some o:=by
 unfold bf at h
 induction e:H a using Option.casesOn with
 | none=>rw [e] at h;exact ⟨rfl,h⟩
 | some o'=>rw [e] at h;exact nomatch h
theorem bf.r{H H' H'':MH}(h:Le H' H''):Le (bf H H') (bf H H''):=fun zz zz e=>bf.mk (bf.inv e).1 (h _ _ (bf.inv e).2)
theorem bf.l{H H' H'':MH}(h:Le H H'):Le (bf H' H'') (bf H H''):=fun zz zz e=>bf.mk (h.old (bf.inv e).1) (bf.inv e).2
theorem bf.le{H H':MH}:Le (bf H H') H':=fun zz zz e=>(bf.inv e).2
noncomputable def jg(F H H':MH):MH:=fun a=>match F a with
 | some o=>some o
 | none=>bf H H' a
theorem aj.frzAll{F:MH}{M:List (Nat×O)}{H H':MH}(h:aj F M H)(k:Le H H'):aj (jg F H H') M H'∧Le F (jg F H H')∧Le (bf H H') (jg F H H'):=by
 have a1:∀{a},F a=none→jg F H H' a=bf H H' a:=fun e=>by unfold jg;rw [e]
 have a2:Le F (jg F H H'):=fun a o e=>by unfold jg;rw [e]
 refine ⟨⟨fun a o e=> ?_,fun p m=>k _ _ (h.cells p m),fun p m=> ?_,h.nd⟩,a2,fun a o e=> ?_⟩
 ·induction f:F a using Option.casesOn with
  | some o'=>exact k _ _ (h.fr _ _ (f.trans ((a2 _ _ f).symm.trans e)))
  | none=>exact (bf.inv ((a1 f).symm.trans e)).2
 ·rw [a1 (h.ap p m)];unfold bf;rw [h.cells p m]
 ·induction f:F a using Option.casesOn with
  | some o'=>exact nomatch (h.fr _ _ f).symm.trans (bf.inv e).1
  | none=>exact (a1 f).trans e
noncomputable def eY(h ops al bk:Nat)(steps:Nat)(t:Txt):O:= .inst 296 [("host", .ref h),("ops", .ref ops),("maker", .con (.ref 895)),("acts", .ref al),("book", .ref bk),("pause", .none),("steps", .int steps),("text", .str t)]
theorem UG{N d:Nat}{hd:Option Nat}{h ops:Nat}{H:MH}{Q:Q1}{E:E1}
  (hQ:∀x al bk H',Le H H'→aj H [(x,eY h ops al bk 0 []),(bk, .dict []),(al, .list [])] H'→Q (.ref x) H'):
  au tab N (d+2) hd (.con (.ref 296)) [.ref h, .ref ops, .con (.ref 895)] H Q E:=by
 refine m6 _ rfl rfl fun x hx=>k0 Bk rfl rfl fun C hC=> ?_
 have C0:=(aj.base H).new (iV false 296) hx
 refine wg (.o aq (.o aq (.o aq .n))) rfl ?_
 intro al hal
 have C1:=C0.set0.set0.set0.new1 (o:= .list []) hal
 refine wg (.o (C1.at 0 rfl) .n) rfl ?_
 intro bk hbk
 have C2:=C1.set0.new1 (o:= .dict []) hbk
 refine wg (.o ((C1.set0.new _ hbk).at 1 rfl) (.o aq (.o aq (.o aq .n)))) rfl ?_
 exact ⟨rfl,hQ x al bk _ C2.set0.set0.set0.set0.fr C2.set0.set0.set0.set0⟩
structure MC where
 m:Nat
 h:Nat
 ops:Nat
 al:Nat
 lg:Nat
 vd:Nat
 cm:Nat
 bk:Nat
 hl:Nat
 pl:Nat
 to:Nat
 il:Nat
 fi:Nat
structure Wd where
 log:List (Txt×List (List Txt))
 book:Option (Txt×Txt)
 cnt:Nat
noncomputable def aZ(s:List Txt):O:= .list (s.map V.str)
noncomputable def bR(e:Txt×List (List Txt)):V:= .tup [.str e.1, .tup (e.2.map fun s=> .tup (s.map V.str))]
noncomputable def cN(e:Nat×Txt×Nat):V:= .tup [.int (e.1:Nat), .str e.2.1, .int (e.2.2:Nat)]
noncomputable def base(c:MC)(cnt sp:Nat)(log:List (Txt×List (List Txt)))(acts:List V)(es cache:List (V×V)):List (Nat×O):=
 [(c.m,eY c.h c.ops c.al c.bk cnt []),(c.h,fG c.to c.il 1 sp c.vd c.cm c.fi),(c.al, .list acts),(c.lg, .list (log.map bR)),(c.vd, .dict es),(c.bk, .dict cache)]
noncomputable def cL:List (V×V):= [
 (.str [112,117,115,104], .con (.ref 687)),(.str [112,111,112], .con (.ref 694)),(.str [108,111,97,100], .con (.ref 701)),(.str [108,111,97,100,95,110,97,109,101], .con (.ref 708)),
 (.str [108,111,97,100,95,101,108,101,109,101,110,116], .con (.ref 715)),(.str [115,116,111,114,101], .con (.ref 722)),(.str [115,116,111,114,101,95,110,97,109,101], .con (.ref 729)),
 (.str [115,116,111,114,101,95,101,108,101,109,101,110,116], .con (.ref 736)),(.str [106,111,105,110], .con (.ref 743)),(.str [105,110,118,111,107,101], .con (.ref 757)),
 (.str [115,116,97,114,116], .con (.ref 771)),(.str [106,117,109,112], .con (.ref 778)),(.str [102,97,105,108], .con (.ref 785)),
 (.str [109,97,114,107,95,111,107], .con (.ref 799)),(.str [99,97,117,103,104,116], .con (.ref 806)),(.str [99,97,117,103,104,116,95,118,97,108,117,101], .con (.ref 813)),
 (.str [99,97,117,103,104,116,95,111,112,116,105,111,110,115], .con (.ref 820)),(.str [99,97,117,103,104,116,95,99,111,100,101], .con (.ref 827))]
structure cW(c:MC)(p:List (Nat×Txt×Nat))(F:MH):Prop where
 ops:F c.ops=some (.dict cL)
 cm:F c.cm=some (.dict [(.str [114], .tup [.con (.ref 914), .tup [.ref c.hl, .ref c.lg, .ref c.pl]])])
 hl:F c.hl=some (.list [.ref c.m])
 pl:F c.pl=some (.list (p.map cN))
theorem cW.mono{c:MC}{p:List (Nat×Txt×Nat)}{F F':MH}(h:cW c p F)(k:Le F F'):cW c p F':=
 ⟨k _ _ h.ops,k _ _ h.cm,k _ _ h.hl,k _ _ h.pl⟩
inductive dh(T:List (Nat×O)):List V→List (List Txt)→Prop
 | nil:dh T [] []
 | cons {a c n st sl ea:Nat} {pc:Int} {cv:V} {s:List Txt} {as:List V} {ss:List (List Txt)} (h:(a,aY c n pc st sl ea cv)∈T) (k:(st,aZ s)∈T) (hl:s.length≤1000) (r:dh T as ss):dh T (.ref a::as) (s::ss)
theorem dh.mono{T T':List (Nat×O)}{as:List V}{ss:List (List Txt)}(h:dh T as ss)(k:∀p∈T,p∈T'):dh T' as ss:=by
 induction h with
 | nil=>exact .nil
 | cons h1 h2 h3 _ ih=>exact .cons (k _ h1) (k _ h2) h3 ih
theorem dh.snoc{T:List (Nat×O)}{as:List V}{ss:List (List Txt)}(h:dh T as ss){a c n st sl ea:Nat}{pc:Int}{cv:V}{s:List Txt}(h1:(a,aY c n pc st sl ea cv)∈T)(h2:(st,aZ s)∈T)(h3:s.length≤1000):
  dh T (as++ [.ref a]) (ss++ [s]):=by
 induction h with
 | nil=>exact .cons h1 h2 h3 .nil
 | cons g1 g2 g3 _ ih=>exact .cons g1 g2 g3 ih
theorem dh.len{T:List (Nat×O)}{as:List V}{ss:List (List Txt)}(h:dh T as ss):as.length=ss.length:=by
 induction h with
 | nil=>rfl
 | cons _ _ _ _ ih=>rw [List.length_cons,List.length_cons,ih]
theorem aj.mem{F:MH}{M:List (Nat×O)}{H:MH}(h:aj F M H){a:Nat}{o:O}(e:(a,o)∈M):H a=some o:=h.cells _ e
theorem aj.newLe{F:MH}{M:List (Nat×O)}{H H':MH}(h:aj F M H)(k:Le H H'){y:Nat}{o:O}(hy:H y=none)(hy':H' y=some o):aj F ((y,o)::M) H':=by
 have h1:=h.new o hy
 refine ⟨h.fr.trans k,fun p m=> ?_,h1.ap,h1.nd⟩
 rcases List.mem_cons.1 m with rfl | m
 ·exact hy'
 ·exact k _ _ (h.cells p m)
set_option tactic.hygienic true in
theorem UJ{N d:Nat}{C:aO}(hC:C=au tab N (d+1)){hd:Option Nat}{M T:List (Nat×O)}{F H:MH}{src:MH→Prop}{loc:Loc}{Q:List V→MH→Prop}(C0:aj F (M++T) H)(hs:src H){as:List V}{ss:List (List Txt)}(ha:dh T as ss):
  ∀(acc:List V),Q (acc++ss.map fun s=>V.tup (s.map V.str)) H→
   iw C hd (.call (.k (.con (.type "tuple"))) [.attr (.loc "act_now") "stack"]) "act_now" [] src loc as acc H Q:=by
 induction ha with
 | nil=>exact fun acc hQ=>uv hs (List.append_nil acc▸hQ)
 | cons h k hl r ih=>
  intro acc hQ
  rename_i a c n st sl ea pc cv s as ss
  have h1:=C0.mem (List.mem_append_right M h)
  have h2:H st=some (.list (s.map V.str)):=C0.mem (List.mem_append_right M k)
  have hl':=cM hl
  refine oZ hC hs ?_
  have g:=aP (l:=loc) (x:="act_now") (v:= .ref a)
  refine wg (.v g (.o h1 (.p rfl (.o h2 (.t (aA hl' rfl) .n))))) rfl ?_
  exact ih _ (by rw [List.append_assoc];exact hQ)
theorem UL{N d:Nat}{c:MC}{p:List (Nat×Txt×Nat)}{cnt sp:Nat}{log:List (Txt×List (List Txt))}{acts:List V}{es cache:List (V×V)}{T:List (Nat×O)}{F H:MH}{Q:Q1}{E:E1}{words:Nat}{name:Txt}{stacks:List (List Txt)}
  (fz:cW c p F) (C0:aj F (base c cnt sp log acts es cache++T) H) (ha:dh T acts stacks) (hw:F words=some (.list [.str [114], .str name]))
  (hl:log.length≤1000) (hp:p.length≤1000) (hal:acts.length≤1000) (hpk:∀e∈p,e.1<8)
  (h0:p[log.length]? =none→∀H',aj F (base c cnt sp (log++ [(name,stacks)]) acts es cache++T) H'→Q (.str [111,118,101,114]) H')
  (h6:∀v m,p[log.length]? =some (6,v,m)→∀F' H' z,Le F F'→aj F' (base c cnt sp (log++ [(name,stacks)]) acts es cache++T) H'→F' z=some (gH (110::eF ((m % 4:Nat):Int)))→Q (.ref z) H')
  (hv:∀k v m,p[log.length]? =some (k,v,m)→k≠6→iG k m=0→∀H',aj F (base c cnt sp (log++ [(name,stacks)]) acts es cache++T) H'→Q (.str v) H')
  (he:∀k v m,p[log.length]? =some (k,v,m)→k≠6→iG k m≠0→∀F' H' x ex,Le F F'→aj F' ((x,cG (dR k v m) ex)::(base c cnt sp (log++ [(name,stacks)]) acts es cache++T)) H'→F' ex=some (cB (dR k v m).ex)→E x H'):
  au tab N (d+4) none (.con (.ref 914)) [.ref c.h, .ref words, .tup [.ref c.hl, .ref c.lg, .ref c.pl]] H Q E:=by
 refine kf CV rfl rfl fun C hC=> ?_
 have fH:=fz.hl
 have fP:=fz.pl
 refine wg (.o (C0.at 3 rfl) (.o (C0.fr _ _ hw) (.o (C0.fr _ _ fH) (.o (C0.at 0 rfl) (.o (C0.at 2 rfl) (.t (aA hal rfl) .n)))))) rfl ?_
 refine UJ hC C0 ?_ ha [] ?_
 ·exact C0.at 2 rfl
 intro z hz
 have hsl:(stacks.map fun s=>V.tup (s.map V.str)).length≤1000:=by rw [List.length_map,←ha.len];exact hal
 have hll:(log.map bR).length≤1000:=by rw [List.length_map];exact hl
 have hpl:(p.map cN).length≤1000:=by rw [List.length_map];exact hp
 have C1:aj F (base c cnt sp (log++ [(name,stacks)]) acts es cache++T) ((H.upd z (.list (stacks.map fun s=>V.tup (s.map V.str)))).upd c.lg (.list (log.map bR++ [bR (name,stacks)]))):=by
  rw [show log.map bR++ [bR (name,stacks)]=(log++ [(name,stacks)]).map bR from (List.map_append (l₂:= [(name,stacks)])).symm]
  exact (C0.new (.list (stacks.map fun s=>V.tup (s.map V.str))) hz).drop1.set 3 (.list ((log++ [(name,stacks)]).map bR)) rfl
 have el:∀x:V,(log.map bR++ [x]).length=log.length+1:=fun x=>by rw [List.length_append,List.length_map];rfl
 have ep:(p.map cN).length=p.length:=List.length_map _
 induction hg:p[log.length]? using Option.casesOn with
 | none=>
  have g:∀x:V,((p.map cN).length:Int)<((log.map bR++ [x]).length:Int):=fun x=>by rw [el,ep];exact fZ (Nat.lt_succ_of_le (List.getElem?_eq_none_iff.1 hg))
  refine wg (.p rfl (.o aq (.t (aA (aC (lk 0 rfl) hsl) rfl) (.o ((C0.new _ hz).at 4 rfl) (.t (cU hll rfl) (.o aq (.t (aA (aC hll (lk 1 rfl)) rfl) (.o (((C0.new _ hz).set 4 _ rfl).fr _ _ fP) (.t (aA hpl rfl) (.t (aL (g _)) .n)))))))))) rfl ?_
  exact h0 hg _ C1
 | some e=>
  obtain ⟨k,v,m⟩:=e
  have hlt:=(List.getElem?_eq_some_iff.1 hg).1
  have g:∀x:V,¬((p.map cN).length:Int)<((log.map bR++ [x]).length:Int):=fun x=>by rw [el,ep];exact iC (Nat.not_lt_of_le hlt)
  have g1:∀x:V,cP (p.map cN).length (((log.map bR++ [x]).length:Int) - 1)=some log.length:=fun x=>by rw [el,show ((log.length+1:Nat):Int) - 1=(log.length:Nat) from Int.add_sub_cancel (log.length:Int) 1];exact pl (aA hpl rfl)
  have g2:(p.map cN)[log.length]? =some (.tup [.int k, .str v, .int m]):=by rw [List.getElem?_map,hg];rfl
  have hk:k<8:=hpk _ (List.mem_of_getElem? hg)
  by_cases k6:k=6
  ·subst k6
   have fm:(m:Int).fmod 4=((m % 4:Nat):Int):=o9 m 4
   have sm:jf ((m:Int).fmod 4):=by
    rw [fm]
    have h:m % 4<4:=Nat.mod_lt _ (Nat.zero_lt_succ 3)
    generalize m % 4=n at h
    unfold jf
    exact match n,h with
     | 0,_=>by decide
     | 1,_=>by decide
     | 2,_=>by decide
     | 3,_=>by decide
   have hs1:=sm.plain.2.1
   have hs2:=sm.plain.2.2
   have h6:=h6 v m hg
   rw [←fm] at h6
   refine wg (.p rfl (.o aq (.t (aA (aC (lk 0 rfl) hsl) rfl) (.o ((C0.new _ hz).at 4 rfl) (.t (cU hll rfl) (.o aq (.t (aA (aC hll (lk 1 rfl)) rfl) (.o (((C0.new _ hz).set 4 _ rfl).fr _ _ fP) (.t (aA hpl rfl) (.f (bc (g _)) (.o aq (.t (aA (aC hll (lk 1 rfl)) rfl) (.o (((C0.new _ hz).set 4 _ rfl).fr _ _ fP) (.k (g1 _) (.v g2 (.t rfl (.t rfl (.t (aL hs2) (.t (aA (aC (lk 1 rfl) hs1) rfl) .n))))))))))))))))))) rfl ?_
   refine cu hC (HJ ?_)
   intro x H' hx le hx'
   have C2:=C1.frzAll le
   exact h6 _ H' x C2.2.1 C2.1 (C2.2.2 _ _ (bf.mk hx hx'))
  ·have e6: ¬(k:Int)=6:=fun e=>k6 (Int.ofNat.inj e)
   refine wg (.p rfl (.o aq (.t (aA (aC (lk 0 rfl) hsl) rfl) (.o ((C0.new _ hz).at 4 rfl) (.t (cU hll rfl) (.o aq (.t (aA (aC hll (lk 1 rfl)) rfl) (.o (((C0.new _ hz).set 4 _ rfl).fr _ _ fP) (.t (aA hpl rfl) (.f (bc (g _)) (.o aq (.t (aA (aC hll (lk 1 rfl)) rfl) (.o (((C0.new _ hz).set 4 _ rfl).fr _ _ fP) (.k (g1 _) (.v g2 (.f (aM e6) .n)))))))))))))))) rfl ?_
   refine cu hC (HH hk ?_)
   intro z x H2 hz hx hzx le2 hz2 hx2
   have C2:=C1.frzAll le2
   by_cases c0:iG k m=0
   ·have ec:(dR k v m).code=0:=c0
    refine wg (.o hz2 (.t (aR ec) .n)) rfl ?_
    exact hv k v m hg k6 c0 _ (C1.le le2)
   ·have ec: ¬(dR k v m).code=0:=c0
    refine wg (.o hz2 (.f (aM ec) .n)) rfl ?_
    refine cu hC (Uv ?_)
    intro y z' H3 hy hz' le3 hy3
    refine wg (.o hy3 (.o aq (.o aq .n))) rfl ?_
    exact he k v m hg k6 c0 _ _ y x C2.2.1 ((C2.1.newLe le3 hy hy3).set0.set0) (C2.2.2 _ _ (bf.mk hx hx2))
theorem nj{as:List V}{x:V}(h:as.length≤1000):cP (as++ [x]).length (-1)=some as.length:=by
 show dC (small (as++ [x]).length) (dC (Nat.ble 1 (as++ [x]).length) (some ((as++ [x]).length - 1)))=_
 rw [aA (aC h (lk 1 rfl)) rfl,List.length_append];rfl
theorem nq{as:List V}{x:V}:(as++ [x])[as.length]? =some x:=List.getElem?_concat_length
theorem uN{as:List V}{x:V}:(0:Int)<((as++ [x]).length:Int):=by rw [List.length_append];exact Int.natCast_succ_pos _
theorem yQ{as:List V}{x:V}:(as++ [x]).getLast? =some x:=List.getLast?_concat
theorem yR(x y:Nat×O)(B R:List (Nat×O)):(x::(B++(y::R))).Perm (B++(y::x::R)):=
 (List.perm_middle (l₁:=B) (l₂:=y::R)).symm.trans (List.Perm.append_left B (List.Perm.swap y x R))
theorem pq{r:Nat}{xs ys:List V}{lo hi:V}{l h:Option Nat}{H:MH}{Q:Q1}(hr:H r=some (.list xs))(h1:jq lo=some l)(h2:jq hi=some h)(e:cI xs l h=ys)(hl:xs.length≤bh)(hQ:∀z,H z=none→Q (.ref z) (H.upd z (.list ys))):ye (.ref r) lo hi H Q:=by
 rw [Gz]
 subst e
 refine aa.mk h1 (aa.mk h2 ?_)
 show aa (bN (H r)) _
 rw [hr]
 exact aa.mk (x:=xs) rfl ⟨hl,hQ⟩
theorem rB{n:Nat}(h:n<1000000000):jq (.int (n:Nat))=some (some n):=by
 show (if 0≤(n:Int)∧(n:Int)<1000000000 then some (some ((n:Int).toNat)) else none)=_
 rw [if_pos ⟨Int.natCast_nonneg n,fZ h⟩,Int.toNat_natCast]
theorem kE(s:List Txt)(t:Txt):aZ (s++ [t])= .list (s.map V.str++ [.str t]):=congrArg O.list List.map_append
theorem HQ{N d:Nat}{hd:Option Nat}{c:MC}{cnt sp:Nat}{log:List (Txt×List (List Txt))}{as:List V}{es cache:List (V×V)}{R:List (Nat×O)}{F H:MH}{Q:Q1}{E:E1}{t:Txt}
  {a cd n st sl ea:Nat} {pc:Int} {cv:V} {s:List Txt}
  (C0:aj F (base c cnt sp log (as++ [.ref a]) es cache++((a,aY cd n pc st sl ea cv)::(st,aZ s)::R)) H) (hal:as.length≤1000) (hs:s.length≤1000)
  (h:∀H',aj F (base c cnt sp log (as++ [.ref a]) es cache++((a,aY cd n pc st sl ea cv)::(st,aZ (s++ [t]))::R)) H'→Q .none H'):
  au tab N (d+2) hd (.con (.ref 251)) [.ref c.m, .str t] H Q E:=by
 refine kf wJ rfl rfl fun C hC=> ?_
 have p1:=nj (x:= .ref a) hal
 have p2:=nq (as:=as) (x:= .ref a)
 have p3:=uN (as:=as) (x:= .ref a)
 have hs':=cM hs
 rw [kE] at h
 refine wg (.o (C0.at 0 rfl) (.o aq (.o (C0.set0.at 2 rfl) (.t (aA (aC hal (lk 1 rfl)) rfl) (.t (aL p3) (.o aq (.o (C0.set0.at 2 rfl) (.k p1 (.v p2 (.o (C0.set0.at 6 rfl) (.o (C0.set0.at 7 rfl) (.o (C0.set0.at 7 rfl) (.t (cU hs' rfl) .n))))))))))))) rfl ?_
 exact h _ ((C0.set 0 _ rfl).set 7 _ rfl)
theorem UT{N d x n:Nat}{hd:Option Nat}{nt:Txt}{H:MH}{Q:Q1}{E:E1}(hn:H n=some (gH nt))(h:Q .none H):
  au tab N (d+1) hd (.con (.ref 420)) [.ref x, .ref n] H Q E:=by
 refine k0 By rfl rfl fun C hC=> ?_
 refine wg (.o hn .n) rfl ?_
 exact h
theorem HR{N d:Nat}{hd:Option Nat}{c:MC}{cnt sp:Nat}{log:List (Txt×List (List Txt))}{as:List V}{es cache:List (V×V)}{T:List (Nat×O)}{F H:MH}{Q:Q1}{E:E1}{nt:Txt}
  {a cd n st sl ea:Nat} {pc:Int} {cv:V}
  (C0:aj F (base c cnt sp log (as++ [.ref a]) es cache++((a,aY cd n pc st sl ea cv)::T)) H) (hal:as.length≤1000) (hn:F n=some (gH nt))
  (h:∀H',aj F (base c cnt sp log as es cache++T) H'→Q .none H'):
  au tab N (d+2) hd (.con (.ref 244)) [.ref c.m] H Q E:=by
 refine kf Bo rfl rfl fun C hC=> ?_
 have p4:=yQ (as:=as) (x:= .ref a)
 have C1:aj F (base c cnt sp log as es cache++((a,aY cd n pc st sl ea cv)::T)) (H.upd c.al (.list (as++ [V.ref a]).dropLast)):=by
  rw [List.dropLast_concat];exact C0.set 2 (.list as) rfl
 refine wg (.o (C0.at 0 rfl) (.o (C0.at 1 rfl) (.o (C0.at 0 rfl) (.o (C0.at 2 rfl) (.o (C0.at 2 rfl) (.t (aA (aC hal (lk 1 rfl)) rfl) (.v p4 (.o (C1.at 6 rfl) .n)))))))) rfl ?_
 refine cu hC (UT (C1.fr _ _ hn) ?_)
 exact h _ (C1.sub ((List.sublist_cons_self _ _).append_left _))
theorem UV{N d:Nat}{hd:Option Nat}{c:MC}{cnt sp:Nat}{log:List (Txt×List (List Txt))}{as:List V}{es cache:List (V×V)}{T:List (Nat×O)}{F H:MH}{Q:Q1}{E:E1}{nt t:Txt}
  {a cd n st sl ea:Nat} {pc:Int} {cv:V}
  (C0:aj F (base c cnt sp log (as++ [.ref a]) es cache++((a,aY cd n pc st sl ea cv)::T)) H) (hal:as.length≤1000) (hn:F n=some (gH nt))
  (h:∀H',aj F (base c cnt sp log as es cache++T) H'→au tab N (d+2) hd (.con (.ref 251)) [.ref c.m, .str t] H' (fun zz H''=>Q .none H'') E):
  au tab N (d+3) hd (.con (.ref 258)) [.ref c.m, .str t] H Q E:=by
 refine kf Bp rfl rfl fun C hC=> ?_
 refine wg (.o (C0.at 0 rfl) .n) rfl ?_
 refine cu hC (HR C0 hal hn ?_)
 intro H1 C1
 refine wg (.o (C1.at 0 rfl) .n) rfl ?_
 exact cu hC (h H1 C1)
theorem UW{N d:Nat}{hd:Option Nat}{c:MC}{cnt sp:Nat}{log:List (Txt×List (List Txt))}{acts:List V}{es cache:List (V×V)}{R:List (Nat×O)}{F H:MH}{Q:Q1}{E:E1}{x y:Txt}
  {a cd n st sl ea:Nat} {pc:Int} {cv:V} {s:List Txt}
  (C0:aj F (base c cnt sp log acts es cache++((a,aY cd n pc st sl ea cv)::(st,aZ (s++ [x,y]))::R)) H) (hs:s.length≤1000)
  (h:∀z st' F' H',Le F F'→F' z=some (.list [.str x, .str y])→aj F' (base c cnt sp log acts es cache++((a,aY cd n pc st' sl ea cv)::(st',aZ s)::R)) H'→Q (.ref z) H'):
  au tab N (d+2) hd (.con (.ref 680)) [.ref a, .int 2] H Q E:=by
 refine kf Ck rfl rfl fun C hC=> ?_
 have el:(List.map V.str (s++ [x,y])).length=s.length+2:=by rw [List.length_map,List.length_append];rfl
 have e1:jq (.int (((List.map V.str (s++ [x,y])).length:Int) - 2))=some (some s.length):=by
  rw [el,show ((s.length+2:Nat):Int) - 2=(s.length:Nat) from Int.add_sub_cancel (s.length:Int) 2]
  exact rB (Nat.lt_of_le_of_lt hs (Nat.lt_of_sub_ne_zero fun h=>nomatch h))
 have e0:(List.map V.str (s++ [x,y])).length≤1002:=el▸Nat.add_le_add_right hs 2
 have em:List.map V.str (s++ [x,y])=s.map V.str++ [.str x, .str y]:=List.map_append
 have e3:cI (List.map V.str (s++ [x,y])) (some s.length) none= [.str x, .str y]:=by
  rw [em];exact List.drop_left' (List.length_map _)
 have e4:cI (List.map V.str (s++ [x,y])) none (some s.length)=s.map V.str:=by
  rw [em];exact List.take_left' (List.length_map _)
 refine wg (.o (C0.at 6 rfl) (.o (C0.at 7 rfl) (.t (aA e0 rfl) (.o (C0.at 6 rfl) .n)))) rfl ?_
 refine pq (C0.at 7 rfl) e1 rfl e3 (fY e0 rfl) fun z hz=> ?_
 obtain ⟨C1,le1⟩:=C0.newF (.list [.str x, .str y]) hz
 refine wg (.o (C1.at 6 rfl) .n) rfl ?_
 refine pq (C1.at 7 rfl) rfl e1 e4 (fY e0 rfl) fun st' hst=> ?_
 have C2:=C1.new (aZ s) hst
 refine wg (.o ((C1.new _ hst).at 7 rfl) .n) rfl ?_
 refine h z st' _ _ le1 (cF _ _ _) (((C2.set 7 _ rfl).sub (M':=(st',aZ s)::(base c cnt sp log acts es cache++((a,aY cd n pc st' sl ea cv)::R))) ?_).perm (yR _ _ _ _))
 exact List.Sublist.cons_cons _ (List.Sublist.append_left (List.Sublist.cons_cons _ (List.sublist_cons_self _ _)) _)
structure Rng where
 ca:Bool
 lo:Nat
 hi:Nat
 bt:Nat
 be:Bool
 ct:Option Nat
 dep:Nat
 late:Bool
 over:Bool
structure aN where
 items:List Txt
 ranges:List Rng
 owned:List Bool
 upto:Nat
 main:Txt
noncomputable def iH(b:Bool):Txt:=if b then [99,97,116,99,104] else [108,111,111,112]
noncomputable def kI:Option Nat→V
 | none=> .none
 | some t=> .tup [.int (t:Nat), .bool false]
noncomputable def bH(r:Rng):V:= .tup [.str (iH r.ca), .int (r.lo:Nat), .int (r.hi:Nat), .tup [.int (r.bt:Nat), .bool r.be],kI r.ct, .int (r.dep:Nat), .bool r.late, .bool r.over]
noncomputable def eE(t:Txt):Nat:=if t= [] then 5 else 3
noncomputable def pos(items:List Txt)(k:Nat):Nat:=((items.take k).map eE).sum
noncomputable def gY(items:List Txt)(t:Nat)(e:Bool):Nat:=pos items t+if e then 2 else 0
noncomputable def gh(items:List Txt)(r:Rng):Nat:=pos items r.lo+if r.late then 2 else 0
noncomputable def gJ(items:List Txt)(r:Rng):Nat:=pos items (r.hi+1)+if r.over=true∧r.hi+1<items.length then 2 else 0
noncomputable def nA(items:List Txt):Option Nat→V
 | none=> .none
 | some t=> .int (pos items t:Nat)
noncomputable def gZ(items:List Txt)(r:Rng):V:= .tup [.str (iH r.ca), .int (gh items r:Nat), .int (gJ items r:Nat), .int (gY items r.bt r.be:Nat),nA items r.ct, .int (r.dep:Nat)]
noncomputable def pA(items:List Txt)(k:Nat):V:= .tup [.int ((pos items k+2:Nat)), .int ((pos items k+3:Nat)), .str ([114,32]++(items[k]?).getD [])]
noncomputable def lN(sh:aN):V:= .tup [.int 0, .int ((pos sh.items sh.upto+if sh.upto<sh.items.length then 2 else 0:Nat)), .str sh.main]
noncomputable def rC(sh:aN)(n:Nat):List V:=((List.range n).filter fun k=>(sh.owned[k]?).getD false).map (pA sh.items)
noncomputable def fJ(t:Txt):List V:=if t= [] then
  [.tup [.str [112,117,115,104], .str [102,105,110,101], .none], .tup [.str [109,97,114,107,95,111,107], .none, .none], .tup [.str [99,97,117,103,104,116,95,99,111,100,101], .none, .none],
   .tup [.str [99,97,117,103,104,116,95,118,97,108,117,101], .none, .none], .tup [.str [99,97,117,103,104,116,95,111,112,116,105,111,110,115], .none, .none]]
 else [.tup [.str [112,117,115,104], .str [114], .none], .tup [.str [112,117,115,104], .str t, .none], .tup [.str [105,110,118,111,107,101], .int 2, .none]]
structure bZ(sh:aN):Prop where
 n1:1≤sh.items.length
 n7:sh.items.length≤7
 own:sh.owned.length=sh.items.length
 upto:sh.upto≤sh.items.length
 main:sh.main.all dg=true∧sh.main.length≤200
 names:∀t∈sh.items,t.all dg=true∧t.length≤5
 rl:sh.ranges.length≤4
 rng:∀r∈sh.ranges,r.lo≤r.hi∧r.hi<sh.items.length∧r.bt<sh.items.length∧r.dep≤3∧(r.be=true→r.ca=true∧sh.items[r.bt]? =some [])∧∀t,r.ct=some t→t<sh.items.length
inductive dz(F:MH)(c:Nat)(sh:aN):Prop where
 | mk (r g n s:Nat) (h1:F c=some (rA r g n s)) (h2:F r=some (.list (sh.items.flatMap fJ))) (h3:F g=some (.list (sh.ranges.map (gZ sh.items)).reverse)) (h4:F n=some (.list [])) (h5:F s=some (.list (rC sh sh.items.length++ [lN sh])))
theorem dz.mono{F F':MH}{c:Nat}{sh:aN}(h:dz F c sh)(k:Le F F'):dz F' c sh:=by
 induction h using dz.casesOn with | mk r g n s h1 h2 h3 h4 h5=>exact ⟨r,g,n,s,k _ _ h1,k _ _ h2,k _ _ h3,k _ _ h4,k _ _ h5⟩
noncomputable def jH:Nat→List Txt→List Nat
 | _,[]=> []
 | x,t::r=>(x+eE t)::jH (x+eE t) r
theorem Yz:eE []=5:=rfl
theorem lO{t:Txt}(h: ¬t= []):eE t=3:=if_neg h
theorem HS(t:Txt):eE t≤5:=by
 by_cases h:t= []
 ·rw [h];exact Nat.le_refl 5
 ·rw [lO h];exact Nat.le_of_ble_eq_true rfl
theorem HW:∀(items:List Txt) (x:Nat),(jH x items).length=items.length
 | [],_=>rfl
 | _::r,_=>congrArg (· +1) (HW r _)
theorem HX:∀(items:List Txt) (x k:Nat),k≤items.length→(x::jH x items)[k]? =some (x+pos items k)
 | _,_,0,_=>rfl
 | [],_,_+1,h=>absurd h (Nat.not_succ_le_zero _)
 | t::r,x,k+1,h=>(HX r (x+eE t) k (Nat.le_of_succ_le_succ h)).trans (congrArg some (Nat.add_assoc ..))
theorem U0:∀(items:List Txt) (x:Nat),∀y∈jH x items,y≤x+5*items.length
 | [],_,_,m=>nomatch m
 | t::r,x,y,m=>by
  have h:=HS t
  rcases List.mem_cons.1 m with rfl | m
  ·exact Nat.add_le_add_left (Nat.le_trans h (Nat.le_add_left _ _)) _
  ·refine Nat.le_trans (U0 r _ y m) ?_
   show x+eE t+5*r.length≤x+(5*r.length+5)
   rw [Nat.add_assoc,Nat.add_comm (eE t)]
   exact Nat.add_le_add_left (Nat.add_le_add_left h _) _
theorem U3{N d:Nat}{C:aO}(hC:C=au tab N (d+1)){hd:Option Nat}{H0:MH}{o:Nat}{v:V}{body:List St}(hb:wQ.body[1]? =some (.each (.name "name") false (.loc "items") body)){Q:QS}{src:MH→Prop}
  (hsrc:∀l,src (H0.upd o (.list l))):
  ∀(items:List Txt) (acc:List V) (x:Nat) (tl:Loc),acc.length+items.length<1000→
   (∀tl,Q .next (("items",v)::("starts", .ref o)::tl) (H0.upd o (.list (acc++ [V.int x]++(jH x items).map fun n:Nat=>V.int n))))→
   cT C N hd (.name "name") body src (items.map V.str) (("items",v)::("starts", .ref o)::tl) (H0.upd o (.list (acc++ [V.int x]))) Q:=by
 cases hb
 intro items
 induction items with
 | nil=>
  intro acc x tl _ hQ
  exact fW (hsrc _) (by have:=hQ tl;rw [show (jH x []).map (fun n:Nat=>V.int n)= [] from rfl,List.append_nil] at this;exact this)
 | cons t r ih=>
  intro acc x tl hlen hQ
  have hal:acc.length≤1000:=Nat.le_trans (Nat.le_add_right _ _) (Nat.le_of_lt hlen)
  have p1:=nj (x:=V.int x) hal
  have p2:=nq (as:=acc) (x:=V.int x)
  have next:=ih (acc++ [V.int x]) (x+eE t) (bu tl "name" (.str t)) (yF ..▸hlen) fun tl=>by rw [List.append_assoc (acc++ [V.int x])];exact hQ tl
  refine fX hC (hsrc _) ?_
  by_cases h0:t= []
  ·subst h0
   refine wg (.o aq (.o aq (.k p1 (.v p2 (.v aP (.o aq (.t (cU (aC hal (lk 1 rfl)) rfl) .n))))))) rfl ?_
   exact (congrArg (fun h=>cT C N hd _ _ src _ _ h Q) (m8 ..)).mpr next
  ·rw [lO h0] at next
   refine wg (.o aq (.o aq (.k p1 (.v p2 (.v aP (.f (aM h0) (.o aq (.t (cU (aC hal (lk 1 rfl)) rfl) .n)))))))) rfl ?_
   exact (congrArg (fun h=>cT C N hd _ _ src _ _ h Q) (m8 ..)).mpr next
theorem U4{N d:Nat}{hd:Option Nat}{it:Nat}{items:List Txt}{H:MH}{Q:Q1}{E:E1}(hi:H it=some (.list (items.map V.str)))(hn:items.length≤7)
  (hQ:∀z H',H z=none→Le H H'→H' z=some (.list ((0::jH 0 items).map fun n:Nat=>V.int n))→Q (.ref z) H'):
  au tab N (d+2) hd (.con (.ref 867)) [.ref it] H Q E:=by
 refine kf wQ rfl rfl fun C hC=> ?_
 refine wg .n rfl ?_
 intro z hz
 refine wg (.o (bx hz hi) .n) rfl ?_
 refine U3 hC (acc:= []) (x:=0) (H0:=H) (o:=z) rfl (fun l=>bx hz hi) items [] (by rw [List.length_nil,Nat.zero_add];exact Nat.lt_of_le_of_lt hn (Nat.lt_of_sub_ne_zero fun h=>nomatch h)) ?_
 intro tl
 refine wg .n rfl ?_
 exact hQ z _ hz (Le.new _ hz) aq
theorem U5:fJ []= [.tup [.str [112,117,115,104], .str [102,105,110,101], .none], .tup [.str [109,97,114,107,95,111,107], .none, .none], .tup [.str [99,97,117,103,104,116,95,99,111,100,101], .none, .none]]++
   [.tup [.str [99,97,117,103,104,116,95,118,97,108,117,101], .none, .none], .tup [.str [99,97,117,103,104,116,95,111,112,116,105,111,110,115], .none, .none]]:=rfl
theorem U6{t:Txt}(h: ¬t= []):fJ t= [.tup [.str [112,117,115,104], .str [114], .none], .tup [.str [112,117,115,104], .str t, .none], .tup [.str [105,110,118,111,107,101], .int 2, .none]]:=if_neg h
theorem U7(t:Txt):(fJ t).length≤5:=yL (lk 5 rfl) (lk 5 rfl)
theorem U8{N d:Nat}{C:aO}(hC:C=au tab N (d+1)){hd:Option Nat}{H0:MH}{it:Nat}{xs:List V}{v:V}{body:List St}(hb:wR.body[1]? =some (.each (.name "name") false (.loc "items") body)){Q:QS}(hi:H0 it=some (.list xs)):
  ∀(items:List Txt) (acc:List V) (tl:Loc) (H:MH) (z:Nat),Le H0 H→H0 z=none→H z=some (.list acc)→acc.length+5*items.length≤900→
   (∀tl H' z',Le H0 H'→H0 z'=none→H' z'=some (.list (acc++items.flatMap fJ))→Q .next (("items",v)::("rows", .ref z')::tl) H')→
   cT C N hd (.name "name") body (fun H'=>H' it=some (.list xs)) (items.map V.str) (("items",v)::("rows", .ref z)::tl) H Q:=by
 cases hb
 intro items
 induction items with
 | nil=>
  intro acc tl H z le hz hz' _ hQ
  exact fW (le _ _ hi) (hQ tl H z le hz (hz'.trans (congrArg (fun l=>some (O.list l)) (List.append_nil _).symm)))
 | cons t r ih=>
  intro acc tl H z le hz hz' hlen hQ
  have hal:acc.length≤900:=Nat.le_trans (Nat.le_add_right _ _) hlen
  have hlen':(acc++fJ t).length+5*r.length≤900:=by
   refine Nat.le_trans ?_ hlen
   rw [List.length_append,Nat.add_assoc]
   exact Nat.add_le_add_left (by show _≤5*r.length+5;rw [Nat.add_comm];exact Nat.add_le_add_left (U7 t) _) _
  have next:=fun z' tl' H' le' hz h=>ih (acc++fJ t) tl' H' z' le' hz h hlen' (by rw [List.append_assoc];exact hQ)
  refine fX hC ?_ ?_
  ·exact le _ _ hi
  by_cases h0:t= []
  ·subst h0
   refine wg (.v aP .n) rfl ?_
   intro y1 hy1
   refine wg (.o (bx hy1 hz') (.o aq (.t (aA (aC hal (lk 3 rfl)) rfl) .n))) rfl ?_
   intro y2 hy2
   refine wg .n rfl ?_
   intro y3 hy3
   refine wg (.o (bx hy3 aq) (.o aq (.t (aA (aC (aC hal (lk 3 rfl)) (lk 2 rfl)) rfl) .n))) rfl ?_
   intro y4 hy4
   exact next y4 _ _ (le.trans ((Le.new _ hy1).trans ((Le.new _ hy2).trans ((Le.new _ hy3).trans (Le.new _ hy4))))) (Le.old (le.trans ((Le.new _ hy1).trans ((Le.new _ hy2).trans (Le.new _ hy3)))) hy4) (aq.trans (by rw [U5,←List.append_assoc]))
  ·rw [U6 h0] at next
   refine wg (.v aP (.f (aM h0) (.v rfl (.v aP .n)))) rfl ?_
   intro y1 hy1
   refine wg (.o (bx hy1 hz') (.o aq (.t (aA (aC hal (lk 3 rfl)) rfl) .n))) rfl ?_
   intro y2 hy2
   exact next y2 _ _ (le.trans ((Le.new _ hy1).trans (Le.new _ hy2))) (Le.old (le.trans (Le.new _ hy1)) hy2) aq
theorem U9{N d:Nat}{hd:Option Nat}{it:Nat}{items:List Txt}{H:MH}{Q:Q1}{E:E1}(hi:H it=some (.list (items.map V.str)))(hn:items.length≤7)
  (hQ:∀z H',H z=none→Le H H'→H' z=some (.list (items.flatMap fJ))→Q (.ref z) H'):
  au tab N (d+2) hd (.con (.ref 874)) [.ref it] H Q E:=by
 refine kf wR rfl rfl fun C hC=> ?_
 refine wg .n rfl ?_
 intro z hz
 refine wg (.o (bx hz hi) .n) rfl ?_
 refine U8 hC (H0:=H) rfl hi items [] [] _ z (Le.new _ hz) hz aq (by rw [List.length_nil,Nat.zero_add];exact Nat.le_trans (Nat.mul_le_mul_left 5 hn) (Nat.le_of_ble_eq_true rfl)) ?_
 intro tl H' z' le hz' hz2
 refine wg .n rfl ?_
 exact hQ z' _ hz' le hz2
structure lQ(H:MH)(sr:Nat)(items:List Txt):Prop where
 at':H sr=some (.list ((0::jH 0 items).map fun n:Nat=>V.int n))
theorem uO{items:List Txt}(hn:items.length≤7):small ((0::jH 0 items).map fun n:Nat=>V.int n).length=true:=by
 rw [List.length_map,List.length_cons,HW];exact aA (Nat.succ_le_succ hn) rfl
theorem rD{items:List Txt}{k:Nat}(hk:k≤items.length):((0::jH 0 items).map fun n:Nat=>V.int n)[k]? =some (.int (pos items k:Nat)):=by
 rw [List.getElem?_map,HX items 0 k hk,Nat.zero_add];rfl
theorem lQ.mono{H H':MH}{sr:Nat}{items:List Txt}(h:lQ H sr items)(k:Le H H'):lQ H' sr items:=⟨k _ _ h.at'⟩
theorem HY{N d:Nat}{hd:Option Nat}{sr t:Nat}{e:Bool}{items:List Txt}{H:MH}{Q:Q1}{E:E1}(hs:lQ H sr items)(hn:items.length≤7)(ht:t≤items.length)
  (hQ:Q (.int (gY items t e:Nat)) H):
  au tab N (d+1) hd (.con (.ref 881)) [.ref sr, .tup [.int (t:Nat), .bool e]] H Q E:=by
 refine k0 CP rfl rfl fun C hC=> ?_
 have h1:=hs.at'
 have g1:=uO hn
 have g2:=rD ht
 induction e using Bool.casesOn with
 | true=>
  refine wg (.o h1 (.k (pl g1) (.v g2 .n))) rfl ?_
  exact hQ
 | false=>
  refine wg (.o h1 (.k (pl g1) (.v g2 .n))) rfl ?_
  exact hQ
noncomputable def nC:List St:=match (qi.body[3]? :Option St) with
 | some (.each _ _ _ b)=>b
 | _=> []
noncomputable def Va:List St:=match (qi.body[5]? :Option St) with
 | some (.each _ _ _ b)=>b
 | _=> []
noncomputable def jJ(sv:V)(it rg ow:Nat)(up mn:V)(sr z:Nat)(tl:Loc):Loc:=
 ("shape",sv)::("items", .ref it)::("ranges", .ref rg)::("owned", .ref ow)::("upto",up)::("main",mn)::("starts", .ref sr)::("made", .ref z)::tl
noncomputable def lR:List String:= ["kind","lo","hi","to_break","to_continue","depth","late","over"]
noncomputable def uP(r:Rng):List V:= [.str (iH r.ca), .int (r.lo:Nat), .int (r.hi:Nat), .tup [.int (r.bt:Nat), .bool r.be],kI r.ct, .int (r.dep:Nat), .bool r.late, .bool r.over]
theorem Vb{items:List Txt}{r:Rng}(h:r.late=true):gh items r=pos items r.lo+2:=by unfold gh;rw [if_pos h]
theorem Vc{items:List Txt}{r:Rng}(h:r.late=false):gh items r=pos items r.lo:=by unfold gh;rw [h];rfl
theorem Vd{items:List Txt}{r:Rng}(h:r.over=true)(k:r.hi+1<items.length):gJ items r=pos items (r.hi+1)+2:=by unfold gJ;rw [if_pos ⟨h,k⟩]
theorem H9{items:List Txt}{r:Rng}(h: ¬(r.over=true∧r.hi+1<items.length)):gJ items r=pos items (r.hi+1):=by unfold gJ;rw [if_neg h];rfl
theorem Ve{N d:Nat}{hd:Option Nat}{sr t:Nat}{v:V}{e:Bool}{items:List Txt}{H:MH}{Q:Q1}{E:E1}(hv:v= .tup [.int (t:Nat), .bool e])(hs:lQ H sr items)(hn:items.length≤7)(ht:t≤items.length)
  (hQ:Q (.int (gY items t e:Nat)) H):au tab N (d+1) hd (.con (.ref 881)) [.ref sr,v] H Q E:=by subst hv;exact HY hs hn ht hQ
theorem Vf{N d:Nat}{C:aO}(hC:C=au tab N (d+2)){hd:Option Nat}{H0:MH}{sv up mn:V}{it rg ow sr:Nat}{sh:aN}(gs:bZ sh){Q:QS}
  (hi:H0 it=some (.list (sh.items.map V.str))) (hr:H0 rg=some (.list (sh.ranges.map bH))) (hs:lQ H0 sr sh.items):
  ∀(rs:List Rng) (acc:List V) (tl:Loc) (H:MH) (z:Nat),(∀r∈rs,r∈sh.ranges)→Le H0 H→H0 z=none→H z=some (.list acc)→acc.length+rs.length<900→
   (∀tl H' z',Le H0 H'→H0 z'=none→H' z'=some (.list ((rs.map (gZ sh.items)).reverse++acc))→Q .next (jJ sv it rg ow up mn sr z' tl) H')→
   cT C N hd (.names lR) nC (fun H'=>H' rg=some (.list (sh.ranges.map bH))) (rs.map bH) (jJ sv it rg ow up mn sr z tl) H Q:=by
 intro rs
 induction rs with
 | nil=>
  intro acc tl H z _ le hz hz' _ hQ
  exact fW (le _ _ hr) (hQ tl H z le hz hz')
 | cons r rs ih=>
  intro acc tl H z hsub le hz hz' hlen hQ
  have hn7:=gs.n7
  obtain ⟨g1,g2,g3,g4,g5,g6⟩:=gs.rng r (hsub r List.mem_cons_self)
  have hal:acc.length≤900:=Nat.le_trans (Nat.le_add_right _ _) (Nat.le_of_lt hlen)
  have hss:=hs.mono le
  have h1:=hss.at'
  have q1:=uO hn7
  have q4:=rD (Nat.le_trans g1 (Nat.le_of_lt g2))
  have q5:=rD (items:=sh.items) (k:=r.hi+1) g2
  have hit:=le _ _ hi
  have ei:(sh.items.map V.str).length=sh.items.length:=List.length_map _
  have q7:(sh.items.map V.str).length≤7:=ei▸hn7
  have t3:∀on,on=nA sh.items r.ct→(bA C true N hd (nC.drop 3) (bu (bu (bu (gR lR (uP r) (jJ sv it rg ow up mn sr z tl)) "first" (.int (gh sh.items r:Nat))) "behind" (.int (gJ sh.items r:Nat))) "onward" on) H
    (m7 (fun l h=>cT C N hd (.names lR) nC (fun H'=>H' rg=some (.list (sh.ranges.map bH))) (rs.map bH) l h Q) Q) qU).P:=by
   intro on e
   subst e
   refine wg (.v (aD rfl (aD rfl (aD rfl (gw 0 rfl rfl)))) (.v (aD rfl (aD rfl aP)) (.v (aD rfl aP) (.v rfl (.v (aD rfl (aD rfl (aD rfl (gw 3 rfl rfl)))) .n))))) rfl ?_
   refine cu hC (HY hss hn7 (Nat.le_of_lt g3) ?_)
   refine wg (.v aP (.v (aD rfl (aD rfl (aD rfl (gw 5 rfl rfl)))) .n)) rfl ?_
   intro y hy
   refine wg (.o aq (.o (bx hy hz') (.t (aA (aC (lk 1 rfl) hal) rfl) .n))) rfl ?_
   intro y2 hy2
   refine ih (gZ sh.items r::acc) (bu (bu (bu (gR lR (uP r) tl) "first" (.int (gh sh.items r:Nat))) "behind" (.int (gJ sh.items r:Nat))) "onward" (nA sh.items r.ct)) _ y2 (fun x m=>hsub x (List.mem_cons_of_mem _ m)) (le.trans ((Le.new _ hy).trans (Le.new _ hy2))) (Le.old (le.trans (Le.new _ hy)) hy2) aq (by rw [List.length_cons,Nat.succ_add_eq_add_succ];exact hlen) ?_
   intro tl H' z' k3 k4 k5
   refine hQ tl H' z' k3 k4 (k5.trans (congrArg (fun l=>some (O.list l)) ?_))
   rw [List.map_cons,List.reverse_cons,List.append_assoc]
   rfl
  have t2:∀b:Int,b=(gJ sh.items r:Nat)→(bA C true N hd (nC.drop 2) (bu (bu (gR lR (uP r) (jJ sv it rg ow up mn sr z tl)) "first" (.int (gh sh.items r:Nat))) "behind" (.int b)) H
    (m7 (fun l h=>cT C N hd (.names lR) nC (fun H'=>H' rg=some (.list (sh.ranges.map bH))) (rs.map bH) l h Q) Q) qU).P:=by
   intro b e
   subst e
   induction hct:r.ct using Option.casesOn with
   | none=>
    have hn:isNone (kI r.ct)=true:=by rw [hct];rfl
    refine W.exec_ok _ (.v (aD rfl (aD rfl (gw 4 rfl rfl))) (.t rfl (.t hn .z))) rfl ?_
    exact t3 _ (by rw [hct];rfl)
   | some t=>
    have hn:isNone (kI r.ct)=false:=by rw [hct];rfl
    refine wg (.v (aD rfl (aD rfl (gw 4 rfl rfl))) (.t rfl (.f hn (.v rfl (.v (aD rfl (aD rfl (gw 4 rfl rfl))) .n))))) rfl ?_
    refine cu hC (Ve (show kI r.ct= .tup [.int (t:Nat), .bool false] by rw [hct];rfl) hss hn7 (Nat.le_of_lt (g6 t hct)) ?_)
    exact t3 _ (by rw [hct];rfl)
  have t1:∀f:Int,f=(gh sh.items r:Nat)→(bA C true N hd (nC.drop 1) (bu (gR lR (uP r) (jJ sv it rg ow up mn sr z tl)) "first" (.int f)) H
    (m7 (fun l h=>cT C N hd (.names lR) nC (fun H'=>H' rg=some (.list (sh.ranges.map bH))) (rs.map bH) l h Q) Q) qU).P:=by
   intro f e
   subst e
   induction ho:r.over using Bool.casesOn with
   | false=>
    refine W.exec_ok _ (.v rfl (.v (aD rfl (gw 2 rfl rfl)) (.o h1 (.k (pl q1) (.v q5 (.v (aD rfl (gw 7 rfl rfl)) (.f ho (.f ho .z)))))))) rfl ?_
    exact t2 _ (by rw [H9 fun z=>nomatch ho.symm.trans z.1];rfl)
   | true=>
    by_cases hl:r.hi+1<sh.items.length
    ·have e6:((r.hi:Int)+1)<((sh.items.map V.str).length:Int):=ei.symm▸fZ hl
     refine W.exec_ok _ (.v rfl (.v (aD rfl (gw 2 rfl rfl)) (.o h1 (.k (pl q1) (.v q5 (.v (aD rfl (gw 7 rfl rfl)) (.t ho (.v (aD rfl (gw 2 rfl rfl)) (.o hit (.t (aA q7 rfl) (.t (aL e6) (.t rfl .z)))))))))))) rfl ?_
     exact t2 _ (by rw [Vd ho hl];rfl)
    ·have e6: ¬((r.hi:Int)+1)<((sh.items.map V.str).length:Int):=ei.symm▸iC hl
     refine W.exec_ok _ (.v rfl (.v (aD rfl (gw 2 rfl rfl)) (.o h1 (.k (pl q1) (.v q5 (.v (aD rfl (gw 7 rfl rfl)) (.t ho (.v (aD rfl (gw 2 rfl rfl)) (.o hit (.t (aA q7 rfl) (.f (bc e6) (.f (bc e6) .z)))))))))))) rfl ?_
     exact t2 _ (by rw [H9 fun z=>hl z.2];rfl)
  refine fX hC ?_ ?_
  ·exact le _ _ hr
  induction hl:r.late using Bool.casesOn with
  | true=>
   refine W.exec_ok _ (.v rfl (.v (gw 1 rfl rfl) (.o h1 (.k (pl q1) (.v q4 (.v (gw 6 rfl rfl) (.t hl .z))))))) rfl ?_
   exact t1 _ (by rw [Vb hl];rfl)
  | false=>
   refine W.exec_ok _ (.v rfl (.v (gw 1 rfl rfl) (.o h1 (.k (pl q1) (.v q4 (.v (gw 6 rfl rfl) (.f hl .z))))))) rfl ?_
   exact t1 _ (by rw [Vc hl];rfl)
theorem Vg{N d:Nat}{C:aO}(hC:C=au tab N (d+1)){hd:Option Nat}{H0:MH}{sv up mn:V}{it rg ow sr z o:Nat}{sh:aN}(gs:bZ sh){Q:QS}
  (hi:H0 it=some (.list (sh.items.map V.str))) (hw:H0 ow=some (.list (sh.owned.map V.bool))) (hs:lQ H0 sr sh.items) (ho:H0 o=none):
  ∀(ks:List Nat) (acc:List V) (tl:Loc),(∀k∈ks,k<sh.items.length)→cR (jJ sv it rg ow up mn sr z tl) "sources"=some (.ref o)→acc.length+ks.length<900→
   (∀tl,cR (jJ sv it rg ow up mn sr z tl) "sources"=some (.ref o)→Q .next (jJ sv it rg ow up mn sr z tl) (H0.upd o (.list (acc++(ks.filter fun k=>(sh.owned[k]?).getD false).map (pA sh.items)))))→
   cT C N hd (.name "k") Va (fun zz=>True) (ks.map fun k:Nat=>V.int k) (jJ sv it rg ow up mn sr z tl) (H0.upd o (.list acc)) Q:=by
 have hsr:=hs.at'
 have hn7:=gs.n7
 have hown:=gs.own
 have q0:=uO hn7
 have q1:(sh.owned.map V.bool).length≤7:=by rw [List.length_map,hown];exact hn7
 have q7:(sh.items.map V.str).length≤7:=cM hn7
 intro ks
 induction ks with
 | nil=>
  intro acc tl _ l1 _ hQ
  have:=hQ tl l1
  rw [show (([]:List Nat).filter fun k=>(sh.owned[k]?).getD false).map (pA sh.items)= [] from rfl,List.append_nil] at this
  exact fW trivial this
 | cons k ks ih=>
  intro acc tl hk l1 hlen hQ
  have hal:acc.length≤900:=Nat.le_trans (Nat.le_add_right _ _) (Nat.le_of_lt hlen)
  have hk0:=hk k List.mem_cons_self
  have hk':∀x∈ks,x<sh.items.length:=fun x m=>hk x (List.mem_cons_of_mem _ m)
  have hb:sh.owned[k]? =some (sh.owned[k]'(hown▸hk0)):=List.getElem?_eq_getElem _
  have ht:sh.items[k]? =some sh.items[k]:=List.getElem?_eq_getElem _
  generalize sh.owned[k]'(hown▸hk0)=b at hb
  generalize sh.items[k]=t at ht
  have q3:(sh.owned.map V.bool)[k]? =some (.bool b):=by rw [List.getElem?_map,hb];rfl
  have q6:=rD (Nat.le_of_lt hk0)
  have q9:(sh.items.map V.str)[k]? =some (.str t):=by rw [List.getElem?_map,ht];rfl
  have hn:=(gs.names t (List.mem_of_getElem? ht)).2
  have l2:=aD (v:= .int k) (show (("k"=="sources")=false) from rfl) l1
  refine fX hC trivial ?_
  induction b using Bool.casesOn with
  | false=>
   rw [List.filter_cons_of_neg (by rw [hb];exact Bool.false_ne_true)] at hQ
   refine wg (.v rfl (.v aP (.o (bx ho hw) (.k (pl (aA q1 rfl)) (.v q3 .n))))) rfl ?_
   exact ih acc (bu tl "k" (.int k)) hk' l2 (Nat.lt_trans (Nat.lt_succ_self _) hlen) hQ
  | true=>
   rw [List.filter_cons_of_pos (by rw [hb];rfl),List.map_cons] at hQ
   have es:pA sh.items k= .tup [.int ((pos sh.items k+2:Nat)), .int ((pos sh.items k+3:Nat)), .str ([114,32]++t)]:=by unfold pA;rw [ht];rfl
   rw [es] at hQ
   refine wg (.v rfl (.v aP (.o (bx ho hw) (.k (pl (aA q1 rfl)) (.v q3 (.v l2 (.o aq (.v rfl (.v aP (.o (bx ho hsr) (.k (pl q0) (.v q6 (.v rfl (.v aP (.o (bx ho hsr) (.k (pl q0) (.v q6 (.v rfl (.v aP (.o (bx ho hi) (.k (pl (aA q7 rfl)) (.v q9 (.t (aA (aC (lk 2 rfl) hn) rfl) (.o aq (.t (cU hal rfl) .n))))))))))))))))))))))))) rfl ?_
   exact (congrArg (fun h=>cT C N hd _ _ _ _ _ h Q) (m8 ..)).mpr (ih _ (bu tl "k" (.int k)) hk' l2 (yF ..▸hlen) fun tl l=>by rw [List.append_assoc];exact hQ tl l)
theorem Vh{sh:aN}(h:sh.upto<sh.items.length):lN sh= .tup [.int 0, .int ((pos sh.items sh.upto+2:Nat)), .str sh.main]:=by unfold lN;rw [if_pos h]
theorem Vi{sh:aN}(h: ¬sh.upto<sh.items.length):lN sh= .tup [.int 0, .int ((pos sh.items sh.upto:Nat)), .str sh.main]:=by unfold lN;rw [if_neg h];rfl
theorem Ia{N d:Nat}{hd:Option Nat}{it rg ow:Nat}{sh:aN}{H:MH}{Q:Q1}{E:E1}(gs:bZ sh)
  (hi:H it=some (.list (sh.items.map V.str))) (hr:H rg=some (.list (sh.ranges.map bH))) (hw:H ow=some (.list (sh.owned.map V.bool)))
  (hQ:∀z H',Le H H'→dz (bf H H') z sh→Q (.ref z) H'):
  au tab N (d+3) hd (.con (.ref 888)) [.tup [.ref it, .ref rg, .ref ow, .int (sh.upto:Nat), .str sh.main]] H Q E:=by
 refine kf qi rfl rfl fun C hC=> ?_
 have hn7:=gs.n7
 have hrl:=gs.rl
 refine wg .n rfl ?_
 refine cu hC (U4 hi hn7 ?_)
 intro sr H1 hsr0 le1 hsr
 have hst:lQ H1 sr sh.items:=⟨hsr⟩
 refine wg .n rfl ?_
 intro z hz
 refine wg (.o (bx hz (le1 _ _ hr)) .n) rfl ?_
 refine Vf hC gs (le1 _ _ hi) (le1 _ _ hr) hst sh.ranges [] [] _ z (fun zz m=>m) (Le.new _ hz) hz aq (by rw [List.length_nil,Nat.zero_add];exact Nat.lt_of_le_of_lt hrl (Nat.lt_of_sub_ne_zero fun h=>nomatch h)) ?_
 intro tl H2 z' le2 hz' hz2
 rw [List.append_nil] at hz2
 refine wg .n rfl ?_
 intro o ho
 have leo:=Le.new (.list []) ho
 have hi2:=le2 _ _ (le1 _ _ hi)
 have q7:(sh.items.map V.str).length≤7:=cM hn7
 have e4:0≤((sh.items.map V.str).length:Int)∧((sh.items.map V.str).length:Int)≤1000:=⟨Int.natCast_nonneg _,j9 (Nat.le_trans q7 (Nat.le_of_ble_eq_true rfl))⟩
 refine wg (.o (bx ho hi2) (.t (aA q7 rfl) (.t (aL e4) .n))) rfl ?_
 have ei:((sh.items.map V.str).length:Int).toNat=sh.items.length:=List.length_map _
 refine Vg hC gs hi2 (le2 _ _ (le1 _ _ hw)) (hst.mono le2) ho (List.range ((sh.items.map V.str).length:Int).toNat) [] _ (fun k m=>ei▸List.mem_range.1 m) aP (by rw [List.length_nil,Nat.zero_add,List.length_range,ei];exact Nat.lt_of_le_of_lt hn7 (Nat.lt_of_sub_ne_zero fun h=>nomatch h)) ?_
 intro tl2 l1
 have hsr':=(hst.mono le2).at'
 have q0:=uO hn7
 have q3:=rD gs.upto
 rw [ei]
 have fl:(([]:List V)++((List.range sh.items.length).filter fun k=>(sh.owned[k]?).getD false).map (pA sh.items)).length≤7:=by
  rw [List.nil_append,List.length_map]
  exact Nat.le_trans (List.length_filter_le _ _) (by rw [List.length_range];exact hn7)
 have leK:∀a,Le H2 ((H2.upd o a).upd o (.list (rC sh sh.items.length++ [lN sh]))):=fun a=>(Le.new a ho).set ho
 have fin:∀a,(bA C true N hd (qi.body.drop 7) (jJ (.tup [.ref it, .ref rg, .ref ow, .int (sh.upto:Nat), .str sh.main]) it rg ow (.int (sh.upto:Nat)) (.str sh.main) sr z' tl2) ((H2.upd o a).upd o (.list (rC sh sh.items.length++ [lN sh]))) (cz Q) (cJ E)).P:=by
  intro a
  refine wg .n rfl ?_
  refine cu hC (U9 (leK a _ _ hi2) hn7 ?_)
  intro rw' H3 hrw le3 hrw3
  refine wg .n rfl ?_
  intro nm hnm
  refine wg (.v l1 .n) rfl ?_
  refine cu hC (Uw ?_)
  intro x H4 hx le4 hx4
  have le34:=(Le.new (.list []) hnm).trans le4
  have leA:Le H H2:=le1.trans le2
  have leB:=(leK a).trans (le3.trans le34)
  refine hQ x H4 (leA.trans leB) ⟨rw',z',nm,o, ?_, ?_, ?_, ?_, ?_⟩
  ·exact bf.mk ((leA.trans ((leK a).trans (le3.trans (Le.new _ hnm)))).old hx) hx4
  ·exact bf.mk ((leA.trans (leK a)).old hrw) (le34 _ _ hrw3)
  ·exact bf.mk (le1.old hz') (leB _ _ hz2)
  ·exact bf.mk ((leA.trans ((leK a).trans le3)).old hnm) (le4 _ _ aq)
  ·exact bf.mk (leA.old ho) ((le3.trans le34) _ _ aq)
 by_cases hu:sh.upto<sh.items.length
 ·have e5:(sh.upto:Int)<((sh.items.map V.str).length:Int):=by rw [List.length_map];exact fZ hu
  rw [Vh hu] at fin
  refine W.exec_ok _ (.v l1 (.o aq (.o (bx ho hsr') (.k (pl q0) (.v q3 (.o (bx ho hi2) (.t (aA q7 rfl) (.t (aL e5) (.o aq (.t (cU fl rfl) .z)))))))))) rfl ?_
  exact fin _
 ·have e5: ¬(sh.upto:Int)<((sh.items.map V.str).length:Int):=by rw [List.length_map];exact iC hu
  rw [Vi hu] at fin
  refine W.exec_ok _ (.v l1 (.o aq (.o (bx ho hsr') (.k (pl q0) (.v q3 (.o (bx ho hi2) (.t (aA q7 rfl) (.f (bc e5) (.o aq (.t (cU fl rfl) .z)))))))))) rfl ?_
  exact fin _
inductive jh(H:MH):V→aN→Prop where
 | mk {sh:aN} (it rg ow:Nat) (h1:H it=some (.list (sh.items.map V.str))) (h2:H rg=some (.list (sh.ranges.map bH))) (h3:H ow=some (.list (sh.owned.map V.bool))):jh H (.tup [.ref it, .ref rg, .ref ow, .int (sh.upto:Nat), .str sh.main]) sh
theorem jh.mono{F F':MH}{v:V}{sh:aN}(h:jh F v sh)(k:Le F F'):jh F' v sh:=by
 cases h with | mk it rg ow h1 h2 h3=>exact ⟨it,rg,ow,k _ _ h1,k _ _ h2,k _ _ h3⟩
noncomputable def dU:Nat→aN
 | 0=>⟨[[97]],[],[false],0,[110,111,110,101]⟩
 | 1=>⟨[[98],[]],[⟨true,0,0,1,true,none,0,true,false⟩],[true,false],2,[105,110,32,98]⟩
 | 2=>⟨[[99],[100]],[⟨false,0,0,1,false,none,0,false,true⟩],[false,true],1,[105,110,32,99]⟩
 | _=>⟨[[101],[],[102]],[⟨true,0,2,2,false,none,1,false,false⟩],[false,false,false],3,[105,110,32,101]⟩
theorem yS{P:Rng→Prop}{r:Rng}(h:P r):∀x∈ [r],P x:=fun zz m=>List.mem_singleton.1 m▸h
theorem Ib:∀{n:Nat},n<4→bZ (dU n)
 | 0,_=>⟨by decide,by decide,rfl,by decide,by decide,by decide,by decide,fun zz m=>nomatch m⟩
 | 1,_=>⟨by decide,by decide,rfl,by decide,by decide,by decide,by decide,yS ⟨by decide,by decide,by decide,by decide,fun zz=>⟨rfl,rfl⟩,fun zz e=>nomatch e⟩⟩
 | 2,_=>⟨by decide,by decide,rfl,by decide,by decide,by decide,by decide,yS ⟨by decide,by decide,by decide,by decide,fun e=>(nomatch e),fun zz e=>nomatch e⟩⟩
 | 3,_=>⟨by decide,by decide,rfl,by decide,by decide,by decide,by decide,yS ⟨by decide,by decide,by decide,by decide,fun e=>(nomatch e),fun zz e=>nomatch e⟩⟩
theorem uQ{H:MH}{a b c:Nat}{o1 o2 o3:O}(ha:H a=none)(hb:(H.upd a o1) b=none)(hc:((H.upd a o1).upd b o2) c=none):
  Le H (((H.upd a o1).upd b o2).upd c o3)∧bf H (((H.upd a o1).upd b o2).upd c o3) a=some o1∧bf H (((H.upd a o1).upd b o2).upd c o3) b=some o2∧bf H (((H.upd a o1).upd b o2).upd c o3) c=some o3:=
 have l1:=Le.new o1 ha
 have l2:=l1.trans (Le.new o2 hb)
 ⟨l2.trans (Le.new o3 hc),bf.mk ha (bx hc (bx hb aq)),bf.mk (l1.old hb) (bx hc aq),bf.mk (l2.old hc) aq⟩
theorem Ie{N d:Nat}{hd:Option Nat}{n:Nat}{H:MH}{Q:Q1}{E:E1}(hn:n<4)
  (hQ:∀v H',Le H H'→jh (bf H H') v (dU n)→Q v H'):
  au tab N (d+1) hd (.con (.ref 860)) [.int (n:Nat)] H Q E:=by
 refine k0 CN rfl rfl fun C hC=> ?_
 revert hQ
 refine gk hn ?_ fun n hn=>gk hn ?_ fun n hn=>gk hn ?_ fun n hn=>gk hn ?_ fun n hn=>absurd hn (Nat.not_lt_zero _)
 ·intro hQ
  refine wg .n rfl ?_
  intro a ha
  refine wg .n rfl ?_
  intro b hb
  refine wg .n rfl ?_
  intro c hc
  have t:=uQ ha hb hc (o3:= .list [.bool false])
  exact hQ _ _ t.1 (.mk (sh:=dU 0) a b c t.2.1 t.2.2.1 t.2.2.2)
 ·intro hQ
  refine wg .n rfl ?_
  intro a ha
  refine wg .n rfl ?_
  intro b hb
  refine wg .n rfl ?_
  intro c hc
  have t:=uQ ha hb hc (o3:= .list [.bool true, .bool false])
  exact hQ _ _ t.1 (.mk (sh:=dU 1) a b c t.2.1 t.2.2.1 t.2.2.2)
 ·intro hQ
  refine wg .n rfl ?_
  intro a ha
  refine wg .n rfl ?_
  intro b hb
  refine wg .n rfl ?_
  intro c hc
  have t:=uQ ha hb hc (o3:= .list [.bool false, .bool true])
  exact hQ _ _ t.1 (.mk (sh:=dU 2) a b c t.2.1 t.2.2.1 t.2.2.2)
 ·intro hQ
  refine wg .n rfl ?_
  intro a ha
  refine wg .n rfl ?_
  intro b hb
  refine wg .n rfl ?_
  intro c hc
  have t:=uQ ha hb hc (o3:= .list [.bool false, .bool false, .bool false])
  exact hQ _ _ t.1 (.mk (sh:=dU 3) a b c t.2.1 t.2.2.1 t.2.2.2)
theorem Vj{H:MH}{r k:Nat}{xs:List V}{ts:List Txt}{s:Txt}{Q:Q1}(hr:H r=some (.list xs))(hs:bU xs=some ts)(hm:s∈ts)(hl:ts.length≤bh)(hk:ts.idxOf s=k)(h:Q (.int (k:Nat)) H):mX .index (.ref r) [.str s] H Q:=by
 subst hk
 rw [qL]
 show aa (bN (H r)) _
 rw [hr]
 exact aa.mk (x:=xs) rfl (aa.mk (x:=s) rfl (aa.mk hs ⟨hm,hl,h⟩))
theorem Ig:∀{n:Nat},n<4→([110,48+n]:Txt)∈([[110,48],[110,49],[110,50],[110,51]]:List Txt)∧List.idxOf [110,48+n] ([[110,48],[110,49],[110,50],[110,51]]:List Txt)=n
 | 0,_=>by decide
 | 1,_=>by decide
 | 2,_=>by decide
 | 3,_=>by decide
theorem Vk{N d:Nat}{hd:Option Nat}{n:Nat}{h b:V}{H:MH}{Q:Q1}{E:E1}(hn:n<4)
  (hQ:∀z H',Le H H'→dz (bf H H') z (dU n)→Q (.ref z) H'):
  au tab N (d+4) hd (.con (.ref 895)) [h, .str [110,48+n],b] H Q E:=by
 refine kf CQ rfl rfl fun C hC=> ?_
 refine wg .n rfl ?_
 intro z hz
 refine wg (.o aq .n) rfl ?_
 refine Vj aq rfl (Ig hn).1 (lk _ rfl) (Ig hn).2 ?_
 refine wg .n rfl ?_
 refine cu hC (Ie hn ?_)
 intro v H1 le1 hs
 obtain ⟨it,rg,ow,h1,h2,h3⟩:=hs.mono bf.le
 refine wg .n rfl ?_
 refine cu hC (Ia (Ib hn) h1 h2 h3 ?_)
 intro x H2 le2 hc
 have leA:=(Le.new _ hz).trans le1
 exact hQ x H2 (leA.trans le2) (hc.mono (bf.l leA))
noncomputable def jK(n:Nat):V:= .tup [.str [110,48+n], .bool false, .str [58,58]]
noncomputable def cA(l:List (Nat×Nat)):List (V×V):=l.map fun p=>(jK p.1, .ref p.2)
noncomputable def iI(F:MH)(l:List (Nat×Nat)):Prop:=∀p∈l,p.1<4∧dz F p.2 (dU p.1)
theorem iI.mono{F F':MH}{l:List (Nat×Nat)}(h:iI F l)(k:Le F F'):iI F' l:=fun p m=>⟨(h p m).1,(h p m).2.mono k⟩
theorem Ih(a n:Nat):(jK a).same (jK n)=(a==n):=by
 refine (Bool.and_true (some ([110,48+n]:Txt)==some [110,48+a])).trans ?_
 by_cases h:a=n
 ·rw [h,aR rfl,aR rfl]
 ·rw [aM h,aM fun e=>h (Nat.add_left_cancel (List.cons.inj (List.cons.inj (Option.some.inj e)).2).1).symm]
theorem Vl(l:List (Nat×Nat))(n:Nat):aW (cA l) (jK n)=(l.find? fun p=>p.1==n).map fun p=>V.ref p.2:=by
 unfold aW cA
 induction l with
 | nil=>rfl
 | cons p l ih=>
  rw [List.map_cons,List.find?_cons,List.find?_cons,Ih]
  induction p.1==n using Bool.casesOn with
  | true=>rfl
  | false=>exact ih
theorem Vm(l:List (Nat×Nat))(n z:Nat)(h:(l.find? fun p=>p.1==n)=none):bC (cA l) (jK n) (.ref z)=cA (l++ [(n,z)]):=by
 induction l with
 | nil=>rfl
 | cons p l ih=>
  rw [List.find?_cons] at h
  show bC ((jK p.1,V.ref p.2)::cA l) (jK n) (.ref z)=(jK p.1,V.ref p.2)::cA (l++ [(n,z)])
  rw [nH,Ih]
  induction e:(p.1==n) using Bool.casesOn with
  | true=>rw [e] at h;exact jN h
  | false=>rw [e] at h;rw [if_neg Bool.false_ne_true,ih h]
theorem Vn(l:List (Nat×Nat))(n:Nat):bB (cA l) (jK n)=true:=by
 refine List.all_eq_true.2 fun e m=> ?_
 obtain ⟨p,_,rfl⟩:=List.mem_map.1 m
 rfl
theorem Vo{N d:Nat}{hd:Option Nat}{x:V}{H:MH}{Q:Q1}{E:E1}(h:Q (.str [58,58]) H):au tab N (d+1) hd (.con (.ref 385)) [x] H Q E:=by
 refine k0 Bx rfl rfl fun C hC=> ?_
 refine wg .n rfl ?_
 exact h
theorem Vp{N d:Nat}{hd:Option Nat}{c:MC}{cnt sp n:Nat}{log:List (Txt×List (List Txt))}{acts:List V}{es:List (V×V)}{l:List (Nat×Nat)}{T:List (Nat×O)}{F H:MH}{Q:Q1}{E:E1}
  (C0:aj F (base c cnt sp log acts es (cA l)++T) H) (hc:iI F l) (hl:l.length≤900) (hn:n<4)
  (hQ:∀z F' H' l',Le F F'→aj F' (base c cnt sp log acts es (cA l')++T) H'→iI F' l'→l'.length≤l.length+1→dz F' z (dU n)→Q (.ref z) H'):
  au tab N (d+5) hd (.con (.ref 230)) [.ref c.m, .str [110,48+n], .bool false] H Q E:=by
 refine kf Bl rfl rfl fun C hC=> ?_
 refine wg (.o (C0.at 0 rfl) (.o (C0.at 1 rfl) .n)) rfl ?_
 refine cu hC (Vo ?_)
 have ok:bB (cA l) (.tup [.str [110,48+n], .bool false, .str [58,58]])=true:=Vn l n
 have fd:=Vl l n
 induction e:l.find? fun p=>p.1==n using Option.casesOn with
 | none=>
  rw [e] at fd
  have f1:(aW (cA l) (.tup [.str [110,48+n], .bool false, .str [58,58]])).isSome=false:=congrArg Option.isSome fd
  refine wg (.o (C0.at 0 rfl) (.o (C0.at 5 rfl) (.o (C0.at 5 rfl) (.t ok (.f f1 (.o (C0.at 0 rfl) (.o (C0.at 0 rfl) .n))))))) rfl ?_
  refine cu hC (Vk hn ?_)
  intro z H1 le1 hz
  have C1:=(C0.frzAll le1).1
  have hl2:(cA l).length<1000:=by unfold cA;rw [List.length_map];exact Nat.lt_of_le_of_lt hl (Nat.lt_of_sub_ne_zero fun h=>nomatch h)
  have C2:aj (jg F H H1) (base c cnt sp log acts es (cA (l++ [(n,z)]))++T) (H1.upd c.bk (.dict (bC (cA l) (jK n) (.ref z)))):=by
   rw [Vm l n z e];exact C1.set 5 _ rfl
  have l1:=(C0.frzAll le1).2
  refine wg (.o (C1.at 0 rfl) (.o (C1.at 5 rfl) (.t ok (.t (aL hl2) .n)))) rfl ?_
  refine hQ z _ _ (l++ [(n,z)]) l1.1 C2 ?_ (by rw [List.length_append];exact Nat.le_refl _) (hz.mono l1.2)
  intro p m
  rcases List.mem_append.1 m with m | m
  ·exact (hc.mono l1.1) p m
  ·obtain rfl:=List.mem_singleton.1 m;exact ⟨hn,hz.mono l1.2⟩
 | some p=>
  rw [e] at fd
  have hpn:p.1=n:=eq_of_beq (List.find?_some (p:=fun p:Nat×Nat=>p.1==n) e)
  obtain ⟨_,hca⟩:=hc p (List.mem_of_find?_eq_some e)
  rw [hpn] at hca
  obtain ⟨r,g,nn,s,hcd,_⟩:=id hca
  have f1:(aW (cA l) (.tup [.str [110,48+n], .bool false, .str [58,58]])).isSome=true:=congrArg Option.isSome fd
  have f2:aW (cA l) (.tup [.str [110,48+n], .bool false, .str [58,58]])=some (.ref p.2):=fd
  refine wg (.o (C0.at 0 rfl) (.o (C0.at 5 rfl) (.o (C0.at 5 rfl) (.t ok (.t f1 (.v f2 (.o (C0.fr _ _ hcd) (.o (C0.at 0 rfl) (.o (C0.at 1 rfl) .n))))))))) rfl ?_
  exact hQ p.2 F H l (Le.refl _) C0 hc (Nat.le_succ _) hca
inductive CR where
 | val (t:Txt)
 | nest (n:Nat)
 | flt (f:aK)
noncomputable def bM(p:List (Nat×Txt×Nat))(i:Nat):CR:=match p[i]? with
 | none=> .val [111,118,101,114]
 | some (k,v,m)=>if k=6 then .nest (m % 4) else if iG k m=0 then .val v else .flt (dR k v m)
theorem rE{p:List (Nat×Txt×Nat)}{i:Nat}(h:p[i]? =none):bM p i= .val [111,118,101,114]:=by unfold bM;rw [h]
theorem uR{p:List (Nat×Txt×Nat)}{i m:Nat}{v:Txt}(h:p[i]? =some (6,v,m)):bM p i= .nest (m % 4):=by unfold bM;rw [h];rfl
theorem uT{p:List (Nat×Txt×Nat)}{i k m:Nat}{v:Txt}(h:p[i]? =some (k,v,m))(k6: ¬k=6)(c:iG k m=0):bM p i= .val v:=by unfold bM;rw [h];dsimp only;rw [if_neg k6,if_pos c]
theorem uU{p:List (Nat×Txt×Nat)}{i k m:Nat}{v:Txt}(h:p[i]? =some (k,v,m))(k6: ¬k=6)(c: ¬iG k m=0):bM p i= .flt (dR k v m):=by unfold bM;rw [h];dsimp only;rw [if_neg k6,if_neg c]
theorem Vq:∀{n:Nat},n<4→110::eF (n:Int)= [110,48+n]
 | 0,_=>by decide
 | 1,_=>by decide
 | 2,_=>by decide
 | 3,_=>by decide
theorem aj.new2{F:MH}{M:List (Nat×O)}{H H':MH}(h:aj F M H)(k:Le H H'){x y:Nat}{o o':O}(hx:H x=none)(hy:H y=none)(hxy:y≠x)(hx':H' x=some o)(hy':H' y=some o'):aj F ((x,o)::(y,o')::M) H':=by
 have h1:=h.new o' hy
 have h2:=h1.new o (z:=x) (by rw [d7 _ _ (Ne.symm hxy)];exact hx)
 refine ⟨h.fr.trans k, ?_,h2.ap,h2.nd⟩
 intro p m
 rcases List.mem_cons.1 m with rfl | m
 ·exact hx'
 ·rcases List.mem_cons.1 m with rfl | m
  ·exact hy'
  ·exact k _ _ (h.cells p m)
theorem Vr(x y:Nat×O)(B R:List (Nat×O)):(x::y::(B++R)).Perm (B++(x::y::R)):=
 (List.perm_append_comm_assoc [x,y] B R)
theorem Vs{N d:Nat}{hd:Option Nat}{c:MC}{cnt sp n z:Nat}{log:List (Txt×List (List Txt))}{acts:List V}{es:List (V×V)}{l:List (Nat×Nat)}{T:List (Nat×O)}{F H:MH}{Q:Q1}{E:E1}
  (C0:aj F (base c cnt sp log acts es (cA l)++T) H) (hc:iI F l) (hl:l.length≤900) (hn:n<4) (hal:acts.length≤30) (hz:F z=some (gH [110,48+n]))
  (hQ:∀a st sl ea cd F' H' l',Le F F'→aj F' (base c cnt sp log (acts++ [.ref a]) es (cA l')++((a,aY cd z 0 st sl ea (.tup [.int 0, .str [], .none]))::(st,aZ [])::T)) H'→iI F' l'→l'.length≤l.length+1→dz F' cd (dU n)→Q .none H'):
  au tab N (d+6) hd (.con (.ref 237)) [.ref c.m, .ref z] H Q E:=by
 refine kf Bm rfl rfl fun C hC=> ?_
 have e1: ¬(40:Int)≤(acts.length:Int):=gF (Nat.not_le_of_lt (Nat.lt_of_le_of_lt hal (Nat.lt_of_sub_ne_zero fun h=>nomatch h)))
 refine wg (.o (C0.at 0 rfl) (.o (C0.at 2 rfl) (.t (aA hal rfl) (.o (C0.at 0 rfl) (.o (C0.at 1 rfl) (.f (bc e1) (.o (C0.at 0 rfl) (.o (C0.at 2 rfl) (.o (C0.at 0 rfl) (.o (C0.fr _ _ hz) (.o (C0.fr _ _ hz) .n))))))))))) rfl ?_
 refine cu hC (Vp C0 hc hl hn ?_)
 intro cd F1 H1 l1 le1 C1 hc1 hl1 hcd
 obtain ⟨r,g,nn,s,hcd1,_,_,hnn,_⟩:=id hcd
 refine wg .n rfl ?_
 refine cu hC (HN (C1.fr _ _ hcd1) (C1.fr _ _ hnn) ?_)
 intro a st sl ea H2 ha hst hne le2 ha2 hst2
 have C2:=C1.new2 le2 ha hst hne ha2 hst2
 refine wg (.o (C2.at 4 rfl) (.t (cU hal rfl) .n)) rfl ?_
 exact hQ a st sl ea cd F1 _ l1 le1 ((C2.set 4 _ rfl).perm (Vr (a,aY cd z 0 st sl ea (V.tup [V.int 0,V.str [],V.none])) (st,O.list []) (base c cnt sp log (acts++ [V.ref a]) es (cA l1)) T)) hc1 hl1 hcd
theorem Vt{N d:Nat}{hd:Option Nat}{c:MC}{cnt sp:Nat}{log:List (Txt×List (List Txt))}{acts:List V}{es cache:List (V×V)}{T:List (Nat×O)}{F H:MH}{Q:Q1}{E:E1}
  (C0:aj F (base c cnt sp log acts es cache++T) H) (hQ:∀H',aj F (base c cnt (sp+1) log acts es cache++T) H'→Q .none H'):
  au tab N (d+1) hd (.con (.ref 378)) [.ref c.h] H Q E:=by
 refine k0 Bw rfl rfl fun C hC=> ?_
 refine wg (.o (C0.at 1 rfl) (.o (C0.at 1 rfl) (.o aq .n))) rfl ?_
 exact hQ _ (C0.set 1 _ rfl)
theorem Vu{N d f:Nat}{hd:Option Nat}{x y z:V}{H:MH}{Q:Q1}{E:E1}(hn:isNone z=false)(h:au tab N d hd (.con (.ref f)) [x,y,z] H Q E):
  au tab N (d+1) hd (.con (.ref 469)) [x,y, .con (.ref f),z] H Q E:=by
 refine k0 BK rfl rfl fun C hC=> ?_
 refine wg (.t rfl (.f hn .n)) rfl ?_
 exact cu hC h
theorem Vv{N d:Nat}{c:MC}{p:List (Nat×Txt×Nat)}{cnt sp:Nat}{log:List (Txt×List (List Txt))}{acts:List V}{es cache:List (V×V)}{T:List (Nat×O)}{F H:MH}{Q:Q1}{E:E1}{words:Nat}{name:Txt}{stacks:List (List Txt)}
  (fz:cW c p F) (C0:aj F (base c cnt sp log acts es cache++T) H) (ha:dh T acts stacks) (hw:F words=some (.list [.str [114], .str name]))
  (hl:log.length≤1000) (hp:p.length≤1000) (hal:acts.length≤1000) (hpk:∀e∈p,e.1<8)
  (hv:∀t,bM p log.length= .val t→∀H',aj F (base c cnt (sp+1) (log++ [(name,stacks)]) acts es cache++T) H'→Q (.str t) H')
  (hn:∀n,bM p log.length= .nest n→n<4→∀F' H' z,Le F F'→aj F' (base c cnt (sp+1) (log++ [(name,stacks)]) acts es cache++T) H'→F' z=some (gH [110,48+n])→Q (.ref z) H')
  (hf:∀f,bM p log.length= .flt f→∀F' H' x ex,Le F F'→aj F' ((x,cG f ex)::(base c cnt (sp+1) (log++ [(name,stacks)]) acts es cache++T)) H'→F' ex=some (cB f.ex)→E x H'):
  au tab N (d+6) none (.con (.ref 583)) [.ref c.h, .ref words] H Q E:=by
 refine kf BZ rfl rfl fun C hC=> ?_
 have fcm:=fz.cm
 refine wg (.o (C0.fr _ _ hw) (.o (C0.at 1 rfl) (.o (C0.fr _ _ fcm) (.o (C0.at 1 rfl) .n)))) rfl ?_
 refine cu hC (Vt C0 ?_)
 intro H1 C1
 refine wg (.o (C1.at 1 rfl) (.o (C1.fr _ _ hw) (.o (C1.fr _ _ fcm) .n))) rfl ?_
 refine cu hC (Vu rfl (UL fz C1 ha hw hl hp hal hpk ?_ ?_ ?_ ?_))
 ·intro e H' C'
  exact hv _ (rE e) H' C'
 ·intro v m e F' H' z le C' hz
  have m4:m % 4<4:=Nat.mod_lt _ (Nat.zero_lt_succ 3)
  exact hn (m % 4) (uR e) m4 F' H' z le C' (Vq m4▸hz)
 ·intro k v m e k6 k0 H' C'
  exact hv _ (uT e k6 k0) H' C'
 ·intro k v m e k6 k0 F' H' x ex le C' hx
  exact hf _ (uU e k6 k0) F' H' x ex le C' hx
theorem Vw{N d:Nat}{hd:Option Nat}{c:MC}{cnt sp:Nat}{log:List (Txt×List (List Txt))}{acts:List V}{es cache:List (V×V)}{T:List (Nat×O)}{F H:MH}{Q:Q1}{E:E1}{t:Txt}
  (C0:aj F (base c cnt sp log acts es cache++T) H) (h:au tab N (d+1) hd (.con (.ref 251)) [.ref c.m, .str t] H (fun zz H'=>Q .none H') E):
  au tab N (d+2) hd (.con (.ref 265)) [.ref c.m, .str t] H Q E:=by
 refine kf wK rfl rfl fun C hC=> ?_
 refine wg (.o (C0.at 0 rfl) .n) rfl ?_
 exact cu hC h
theorem Vx{N d:Nat}{hd:Option Nat}{c:MC}{cnt sp z:Nat}{nt:Txt}{log:List (Txt×List (List Txt))}{acts:List V}{es cache:List (V×V)}{T:List (Nat×O)}{F H:MH}{Q:Q1}{E:E1}
  (C0:aj F (base c cnt sp log acts es cache++T) H) (hz:F z=some (gH nt)) (h:au tab N (d+1) hd (.con (.ref 237)) [.ref c.m, .ref z] H (fun zz H'=>Q .none H') E):
  au tab N (d+2) hd (.con (.ref 265)) [.ref c.m, .ref z] H Q E:=by
 refine kf wK rfl rfl fun C hC=> ?_
 refine wg (.o (C0.fr _ _ hz) (.o (C0.at 0 rfl) .n)) rfl ?_
 exact cu hC h
theorem Vy{N d:Nat}{c:MC}{p:List (Nat×Txt×Nat)}{cnt sp:Nat}{log:List (Txt×List (List Txt))}{as:List V}{es:List (V×V)}{l:List (Nat×Nat)}{T R:List (Nat×O)}{F H:MH}{Q:Q1}{E:E1}{name:Txt}{stacks:List (List Txt)}
  {a cd n st sl ea:Nat} {pc:Int} {cv:V} {s:List Txt}
  (fz:cW c p F) (C0:aj F (base c cnt sp log (as++ [.ref a]) es (cA l)++((a,aY cd n pc st sl ea cv)::(st,aZ (s++ [[114],name]))::(T++R))) H) (ha:dh T as stacks)
  (hs:s.length≤900) (hl:log.length≤1000) (hp:p.length≤1000) (hal:as.length≤29) (hpk:∀e∈p,e.1<8) (hc:iI F l) (hcl:l.length≤900)
  (hv:∀t,bM p log.length= .val t→∀F' H' st',Le F F'→aj F' (base c cnt (sp+1) (log++ [(name,stacks++ [s])]) (as++ [.ref a]) es (cA l)++((a,aY cd n pc st' sl ea cv)::(st',aZ (s++ [t]))::(T++R))) H'→Q .none H')
  (hn:∀k,bM p log.length= .nest k→k<4→∀a' z' st'' sl' ea' cd' F' H' st' l',Le F F'→aj F' (base c cnt (sp+1) (log++ [(name,stacks++ [s])]) ((as++ [.ref a])++ [.ref a']) es (cA l')++((a',aY cd' z' 0 st'' sl' ea' (.tup [.int 0, .str [], .none]))::(st'',aZ [])::(a,aY cd n pc st' sl ea cv)::(st',aZ s)::(T++R))) H'→
    iI F' l'→l'.length≤l.length+1→dz F' cd' (dU k)→F' z'=some (gH [110,48+k])→Q .none H')
  (hf:∀f,bM p log.length= .flt f→∀F' H' st' x ex,Le F F'→aj F' ((x,cG f ex)::(base c cnt (sp+1) (log++ [(name,stacks++ [s])]) (as++ [.ref a]) es (cA l)++((a,aY cd n pc st' sl ea cv)::(st',aZ s)::(T++R)))) H'→F' ex=some (cB f.ex)→E x H'):
  au tab N (d+10) none (.con (.ref 757)) [.ref c.m, .ref a, .int 2, .none] H Q E:=by
 refine kf Cq rfl rfl fun C hC=> ?_
 refine wg .n rfl ?_
 refine cu hC (UW C0 (Nat.le_trans hs (Nat.le_of_ble_eq_true rfl)) ?_)
 intro w st' F1 H1 le1 hw C1
 refine wg .n rfl ?_
 refine cu hC (kf Cp rfl rfl fun C2 hC2=> ?_)
 refine wg (.o (C1.fr _ _ hw) (.o (C1.at 0 rfl) (.o (C1.at 0 rfl) (.o (C1.at 1 rfl) .n)))) rfl ?_
 have ac:dh ((a,aY cd n pc st' sl ea cv)::(st',aZ s)::(T++R)) (as++ [.ref a]) (stacks++ [s]):=
  (ha.mono (fun q m=>List.mem_cons_of_mem _ (List.mem_cons_of_mem _ (List.mem_append_left _ m)))).snoc List.mem_cons_self (List.mem_cons_of_mem _ List.mem_cons_self) (Nat.le_trans hs (Nat.le_of_ble_eq_true rfl))
 have hal':(as++ [V.ref a]).length≤30:=by rw [List.length_append];exact Nat.add_le_add_right hal 1
 refine cu hC2 (Vv (fz.mono le1) C1 ac hw hl hp (fY hal' rfl) hpk ?_ ?_ ?_)
 ·intro t ht H2 C2
  refine wg .n rfl ?_
  refine cu hC2 (Vw C2 (HQ C2 (fY hal rfl) (fY hs rfl) ?_))
  intro H3 C3
  exact hv t ht F1 H3 st' le1 C3
 ·intro k hk hk4 F2 H2 z le2 C2 hz
  refine wg .n rfl ?_
  refine cu hC2 (Vx C2 hz (Vs C2 (hc.mono (le1.trans le2)) hcl hk4 hal' hz ?_))
  intro a' st'' sl' ea' cd' F3 H3 l' le3 C3 hc3 hl3 hcd
  exact hn k hk hk4 a' z st'' sl' ea' cd' F3 H3 st' l' ((le1.trans le2).trans le3) C3 hc3 hl3 hcd (le3 _ _ hz)
 ·intro f hk F2 H2 x ex le2 C2 hx
  exact hf f hk F2 H2 st' x ex (le1.trans le2) C2 hx
theorem Vz{N d:Nat}{hd:Option Nat}{c:MC}{cnt sp:Nat}{log:List (Txt×List (List Txt))}{acts:List V}{es cache:List (V×V)}{R:List (Nat×O)}{F H:MH}{Q:Q1}{E:E1}{t:Txt}{b:V}
  {a cd n st sl ea:Nat} {pc:Int} {cv:V} {s:List Txt}
  (C0:aj F (base c cnt sp log acts es cache++((a,aY cd n pc st sl ea cv)::(st,aZ s)::R)) H) (hs:s.length≤1000)
  (h:∀H',aj F (base c cnt sp log acts es cache++((a,aY cd n pc st sl ea cv)::(st,aZ (s++ [t]))::R)) H'→Q .none H'):
  au tab N (d+1) hd (.con (.ref 687)) [.ref c.m, .ref a, .str t,b] H Q E:=by
 refine k0 Cm rfl rfl fun C hC=> ?_
 have hs':=cM hs
 rw [kE] at h
 refine wg (.o (C0.at 6 rfl) (.o (C0.at 7 rfl) (.o (C0.at 7 rfl) (.t (cU hs' rfl) .n)))) rfl ?_
 exact h _ (C0.set 7 _ rfl)
theorem VB{N d:Nat}{hd:Option Nat}{c:MC}{cnt sp:Nat}{log:List (Txt×List (List Txt))}{acts:List V}{es cache:List (V×V)}{R:List (Nat×O)}{F H:MH}{Q:Q1}{E:E1}{t:Txt}{b b':V}
  {a cd n st sl ea:Nat} {pc:Int} {cv:V} {s:List Txt}
  (C0:aj F (base c cnt sp log acts es cache++((a,aY cd n pc st sl ea cv)::(st,aZ (s++ [t]))::R)) H) (hs:s.length≤1000)
  (h:∀H',aj F (base c cnt sp log acts es cache++((a,aY cd n pc st sl ea (.tup [.int 0, .str t, .none]))::(st,aZ s)::R)) H'→Q .none H'):
  au tab N (d+1) hd (.con (.ref 799)) [.ref c.m, .ref a,b,b'] H Q E:=by
 refine k0 Cu rfl rfl fun C hC=> ?_
 rw [kE] at C0
 have p4:=yQ (as:=s.map V.str) (x:=V.str t)
 have hs':(s.map V.str++ [V.str t]).length≤1001:=aC (cM hs) (lk 1 rfl)
 have C1:aj F (base c cnt sp log acts es cache++((a,aY cd n pc st sl ea cv)::(st,aZ s)::R)) (H.upd st (.list (s.map V.str++ [V.str t]).dropLast)):=by
  rw [List.dropLast_concat];exact C0.set 7 _ rfl
 refine wg (.o (C0.at 6 rfl) (.o (C0.at 7 rfl) (.o (C0.at 7 rfl) (.t (aA hs' rfl) (.v p4 (.o (C1.at 6 rfl) .n)))))) rfl ?_
 exact h _ (C1.set 6 _ rfl)
theorem VD{N d:Nat}{hd:Option Nat}{c:MC}{cnt sp:Nat}{log:List (Txt×List (List Txt))}{acts:List V}{es cache:List (V×V)}{R:List (Nat×O)}{F H:MH}{Q:Q1}{E:E1}{b b':V}
  {a cd n st sl ea:Nat} {pc k:Int} {v:Txt} {x:V} {s:List Txt}
  (C0:aj F (base c cnt sp log acts es cache++((a,aY cd n pc st sl ea (.tup [.int k, .str v,x]))::(st,aZ s)::R)) H) (hs:s.length≤1000) (hk:k.natAbs<10000000000)
  (h:∀H',aj F (base c cnt sp log acts es cache++((a,aY cd n pc st sl ea (.tup [.int k, .str v,x]))::(st,aZ (s++ [eF k]))::R)) H'→Q .none H'):
  au tab N (d+2) hd (.con (.ref 827)) [.ref c.m, .ref a,b,b'] H Q E:=by
 refine kf Cz rfl rfl fun C hC=> ?_
 have hs':=cM hs
 rw [kE] at h
 refine wg (.o (C0.at 6 rfl) (.o (C0.at 7 rfl) (.o (C0.at 6 rfl) (.t (aL hk) (.o (C0.at 7 rfl) (.t (cU hs' rfl) .n)))))) rfl ?_
 exact h _ (C0.set 7 _ rfl)
theorem VF{N d:Nat}{hd:Option Nat}{c:MC}{cnt sp:Nat}{log:List (Txt×List (List Txt))}{acts:List V}{es cache:List (V×V)}{R:List (Nat×O)}{F H:MH}{Q:Q1}{E:E1}{b b':V}
  {a cd n st sl ea:Nat} {pc k:Int} {v:Txt} {x:V} {s:List Txt}
  (C0:aj F (base c cnt sp log acts es cache++((a,aY cd n pc st sl ea (.tup [.int k, .str v,x]))::(st,aZ s)::R)) H) (hs:s.length≤1000)
  (h:∀H',aj F (base c cnt sp log acts es cache++((a,aY cd n pc st sl ea (.tup [.int k, .str v,x]))::(st,aZ (s++ [v]))::R)) H'→Q .none H'):
  au tab N (d+2) hd (.con (.ref 813)) [.ref c.m, .ref a,b,b'] H Q E:=by
 refine kf Cw rfl rfl fun C hC=> ?_
 have hs':=cM hs
 rw [kE] at h
 refine wg (.o (C0.at 6 rfl) (.o (C0.at 7 rfl) (.o (C0.at 6 rfl) (.o (C0.at 7 rfl) (.t (cU hs' rfl) .n))))) rfl ?_
 exact h _ (C0.set 7 _ rfl)
noncomputable def g8(F:MH)(cv:V):Option aK→Prop
 | none=>cv= .tup [.int 0, .str [102,105,110,101], .none]
 | some f=>∃x ex,cv= .tup [.int f.code, .str f.val, .ref x]∧F x=some (cG f ex)∧F ex=some (cB f.ex)∧bO f
theorem g8.mono{F F':MH}{cv:V}{o:Option aK}(h:g8 F cv o)(k:Le F F'):g8 F' cv o:=by
 induction o using Option.casesOn with
 | none=>exact h
 | some f=>obtain ⟨x,ex,h0,h1,h2,h3⟩:=h;exact ⟨x,ex,h0,k _ _ h1,k _ _ h2,h3⟩
theorem VG{N d:Nat}{hd:Option Nat}{c:MC}{cnt sp:Nat}{log:List (Txt×List (List Txt))}{acts:List V}{es cache:List (V×V)}{R:List (Nat×O)}{F H:MH}{Q:Q1}{E:E1}{b b':V}
  {a cd n st sl ea:Nat} {pc:Int} {cv:V} {s:List Txt} {o:Option aK} (hN:200000≤N)
  (C0:aj F (base c cnt sp log acts es cache++((a,aY cd n pc st sl ea cv)::(st,aZ s)::R)) H) (hs:s.length≤1000) (hcv:g8 F cv o)
  (h:∀H',aj F (base c cnt sp log acts es cache++((a,aY cd n pc st sl ea cv)::(st,aZ (s++ [o8 o]))::R)) H'→Q .none H'):
  au tab N (d+9) hd (.con (.ref 820)) [.ref c.m, .ref a,b,b'] H Q E:=by
 refine kf Cy rfl rfl fun C hC=> ?_
 have hs':=cM hs
 rw [kE] at h
 induction o using Option.casesOn with
 | none=>
  subst hcv
  refine wg (.o (C0.at 6 rfl) (.o (C0.at 7 rfl) (.o (C0.at 6 rfl) .n))) rfl ?_
  refine cu hC (Up ?_)
  refine wg (.o (C0.at 7 rfl) (.t (cU hs' rfl) .n)) rfl ?_
  exact h _ (C0.set 7 _ rfl)
 | some f=>
  obtain ⟨x,ex,rfl,h1,h2,h3⟩:=hcv
  refine wg (.o (C0.at 6 rfl) (.o (C0.at 7 rfl) (.o (C0.at 6 rfl) .n))) rfl ?_
  refine cu hC (Ur hN (C0.fr _ _ h1) (C0.fr _ _ h2) h3 ?_)
  intro H1 le1
  have C1:=C0.le le1
  refine wg (.o (C1.at 7 rfl) (.t (cU hs' rfl) .n)) rfl ?_
  exact h _ (C1.set 7 _ rfl)
noncomputable def EI:Txt:= [58,58,101,114,114,111,114,73,110,102,111]
noncomputable def EC:Txt:= [58,58,101,114,114,111,114,67,111,100,101]
noncomputable def ie:Txt:= [115,99,97,108,97,114]
inductive dH:Option (Txt×Txt)→List (V×V)→List (Nat×O)→Prop
 | no:dH none [] []
 | yes (i e:Txt) (x y t u:Nat) (n m:Int):dH (some (i,e)) [(.str EI, .ref x),(.str EC, .ref y)] [(x,d9 ie i t n),(y,d9 ie e u m)]
theorem aj.set3{F:MH}{M:List (Nat×O)}{H:MH}{a:Nat}{o o1 o2 o3:O}(h:aj F M H)(i:Nat)(e:M[i]? =some (a,o)):aj F (M.set i (a,o3)) (((H.upd a o1).upd a o2).upd a o3):=by
 rw [m8,m8];exact h.set i o3 e
theorem Ii{N d i x t:Nat}{hd:Option Nat}{M:List (Nat×O)}{F H:MH}{Q:Q1}{E:E1}{self nm:V}{v v0 k0':Txt}{n:Int}
  (C0:aj F M H) (hi:M[i]? =some (x,d9 k0' v0 t n)) (h:∀m H',aj F (M.set i (x,d9 ie v t m)) H'→Q (.str v) H'):
  au tab N (d+2) hd (.con (.ref 512)) [self, .ref x,nm, .str v] H Q E:=by
 refine k0 BR rfl rfl fun C hC=> ?_
 refine wg .n rfl ?_
 refine cu hC (k0 BJ rfl rfl fun C2 hC2=> ?_)
 have hx:=C0.at i hi
 refine wg (.o hx (.o aq (.o aq (.o aq .n)))) rfl ?_
 exact h _ _ (C0.set3 i hi)
theorem VH{N d:Nat}{hd:Option Nat}{c:MC}{cnt sp:Nat}{log:List (Txt×List (List Txt))}{acts:List V}{es cache:List (V×V)}{M:List (Nat×O)}{F H:MH}{Q:Q1}{E:E1}{nm:Txt}
  (C0:aj F (base c cnt sp log acts es cache++M) H) (h0:bB es (.str nm)=true) (h1:(aW es (.str nm)).isSome=false) (h2:es.length<1000) (h3:∀w,bB (es++ [(.str nm,w)]) (.str nm)=true∧aW (es++ [(.str nm,w)]) (.str nm)=some w∧bC es (.str nm) w=es++ [(.str nm,w)])
  (h:∀x t n H',aj F ((x,d9 [110,111,110,101] [] t n)::(base c cnt sp log acts (es++ [(.str nm, .ref x)]) cache++M)) H'→Q (.ref x) H'):
  au tab N (d+4) hd (.con (.ref 498)) [.ref c.h, .str nm] H Q E:=by
 refine k0 tu rfl rfl fun C hC=> ?_
 refine wg (.o (C0.at 1 rfl) .n) rfl ?_
 refine cu hC (k0 s8 rfl rfl fun C2 hC2=> ?_)
 refine wg (.o (C0.at 4 rfl) (.t h0 (.t (j8 h1) .n))) rfl ?_
 refine cu hC2 (Ux ?_)
 intro x t H1 hx le1 hx1
 have C1:=C0.newLe le1 hx hx1
 have C3:aj F ((x,d9 [110,111,110,101] [] t 0)::(base c cnt sp log acts (es++ [(.str nm, .ref x)]) cache++M)) (H1.upd c.vd (.dict (bC es (.str nm) (.ref x)))):=by
  rw [(h3 _).2.2];exact C1.set 5 _ rfl
 have g0:=(h3 (.ref x)).1
 have g1:=(h3 (.ref x)).2.1
 rw [←(h3 _).2.2] at g0 g1
 refine wg (.o (C1.at 5 rfl) (.t h0 (.t (aL h2) (.o aq (.t g0 (.v g1 .n)))))) rfl ?_
 exact h x t _ _ C3
theorem VJ{N d x:Nat}{hd:Option Nat}{c:MC}{cnt sp:Nat}{log:List (Txt×List (List Txt))}{acts:List V}{es cache:List (V×V)}{M:List (Nat×O)}{F H:MH}{Q:Q1}{E:E1}{nm:Txt}
  (C0:aj F (base c cnt sp log acts es cache++M) H) (h0:bB es (.str nm)=true) (h1:aW es (.str nm)=some (.ref x))
  (h:Q (.ref x) H):
  au tab N (d+2) hd (.con (.ref 498)) [.ref c.h, .str nm] H Q E:=by
 refine k0 tu rfl rfl fun C hC=> ?_
 refine wg (.o (C0.at 1 rfl) .n) rfl ?_
 refine cu hC (k0 s8 rfl rfl fun C2 hC2=> ?_)
 have h2:(aW es (.str nm)).isSome=true:=congrArg Option.isSome h1
 refine wg (.o (C0.at 4 rfl) (.t h0 (.f (bY h2) (.o (C0.at 4 rfl) (.t h0 (.v h1 .n)))))) rfl ?_
 exact h
theorem Ij{N d:Nat}{hd:Option Nat}{c:MC}{cnt sp:Nat}{log:List (Txt×List (List Txt))}{acts:List V}{es cache:List (V×V)}{M:List (Nat×O)}{F H:MH}{Q:Q1}{E:E1}{nm v:Txt}
  (C0:aj F (base c cnt sp log acts es cache++M) H) (h0:bB es (.str nm)=true) (h1:(aW es (.str nm)).isSome=false) (h2:es.length<1000) (h3:∀w,bB (es++ [(.str nm,w)]) (.str nm)=true∧aW (es++ [(.str nm,w)]) (.str nm)=some w∧bC es (.str nm) w=es++ [(.str nm,w)])
  (h:∀x t n H',aj F ((x,d9 ie v t n)::(base c cnt sp log acts (es++ [(.str nm, .ref x)]) cache++M)) H'→Q .none H'):
  au tab N (d+6) hd (.con (.ref 659)) [.ref c.h, .str nm, .str v] H Q E:=by
 refine k0 wO rfl rfl fun C hC=> ?_
 refine wg (.o (C0.at 1 rfl) .n) rfl ?_
 refine cu hC (k0 wN rfl rfl fun C2 hC2=> ?_)
 refine wg (.o (C0.at 1 rfl) (.o (C0.at 1 rfl) .n)) rfl ?_
 refine cu hC2 (VH C0 h0 h1 h2 h3 ?_)
 intro x t n H1 C1
 have hX:=C1.at 0 rfl
 refine wg .n rfl ?_
 exact cu hC2 (Ii C1 (i:=0) rfl fun m H' C'=>h x t m H' C')
theorem Ik{N d:Nat}{hd:Option Nat}{c:MC}{cnt sp:Nat}{log:List (Txt×List (List Txt))}{acts:List V}{es cache:List (V×V)}{M:List (Nat×O)}{F H:MH}{Q:Q1}{E:E1}{nm v v0 k0:Txt}{x t:Nat}{n:Int}{i:Nat}
  (C0:aj F (base c cnt sp log acts es cache++M) H) (h0:bB es (.str nm)=true) (h1:aW es (.str nm)=some (.ref x)) (hi:(base c cnt sp log acts es cache++M)[i]? =some (x,d9 k0 v0 t n))
  (h:∀m H',aj F ((base c cnt sp log acts es cache++M).set i (x,d9 ie v t m)) H'→Q .none H'):
  au tab N (d+6) hd (.con (.ref 659)) [.ref c.h, .str nm, .str v] H Q E:=by
 refine Mine.k0 wO rfl rfl fun C hC=> ?_
 refine wg (.o (C0.at 1 rfl) .n) rfl ?_
 refine cu hC (Mine.k0 wN rfl rfl fun C2 hC2=> ?_)
 refine wg (.o (C0.at 1 rfl) (.o (C0.at 1 rfl) .n)) rfl ?_
 refine cu hC2 (VJ C0 h0 h1 ?_)
 refine wg .n rfl ?_
 exact cu hC2 (Ii C0 hi fun m H' C'=>h m H' C')
noncomputable def iJ(b:Option (Txt×Txt))(f:aK):Option (Txt×Txt):=if f.code=1 then some (fC f,gV f.ec) else b
theorem Il(B V U:List (Nat×O)):(B++(V++U)).Perm (B++(U++V)):=List.Perm.append_left B List.perm_append_comm
theorem Io{bk:Option (Txt×Txt)}{f:aK}(h:f.code=1):iJ bk f=some (fC f,gV f.ec):=if_pos h
theorem Ip{bk:Option (Txt×Txt)}{f:aK}(h: ¬f.code=1):iJ bk f=bk:=if_neg h
theorem VK{N d:Nat}{hd:Option Nat}{c:MC}{cnt sp:Nat}{log:List (Txt×List (List Txt))}{acts:List V}{es cache:List (V×V)}{U vc:List (Nat×O)}{F H:MH}{Q:Q1}{E:E1}{b b':V}
  {a cd n st sl ea:Nat} {pc:Int} {cv:V} {f:aK} {bk:Option (Txt×Txt)} (hN:200000≤N) (hb:dH bk es vc)
  (C0:aj F (base c cnt sp log acts es cache++(((a,aY cd n pc st sl ea cv)::U)++vc)) H) (hcv:g8 F cv (some f))
  (h:∀es' vc' H',dH (iJ bk f) es' vc'→aj F (base c cnt sp log acts es' cache++(((a,aY cd n pc st sl ea cv)::U)++vc')) H'→Q .none H'):
  au tab N (d+8) hd (.con (.ref 806)) [.ref c.m, .ref a,b,b'] H Q E:=by
 refine kf Cv rfl rfl fun C hC=> ?_
 obtain ⟨x,ex,rfl,h1,h2,h3⟩:=hcv
 refine wg (.o (C0.at 0 rfl) (.o (C0.at 6 rfl) .n)) rfl ?_
 refine cu hC (kf Cj rfl rfl fun C2 hC2=> ?_)
 by_cases c1:f.code=1
 ·rw [Io c1] at h
  refine wg (.o (C0.fr _ _ h1) (.t (aR c1) .n)) rfl ?_
  refine cu hC2 (Hx (C0.fr _ _ h1) ?_)
  refine wg .n rfl ?_
  cases hb with
  | no=>
   rw [List.append_nil] at C0
   refine cu hC2 (Ij C0 rfl rfl (Nat.le_of_ble_eq_true rfl) (fun w=>⟨rfl,rfl,rfl⟩) ?_)
   intro y1 t1 n1 H1 C1
   refine wg (.o (C1.fr _ _ h1) .n) rfl ?_
   refine cu hC2 (yK hN ?_)
   intro H2 le2
   have C3:=(C1.le le2).perm List.perm_middle.symm
   refine wg .n rfl ?_
   refine cu hC2 (Ij C3 rfl rfl (Nat.le_of_ble_eq_true rfl) (fun w=>⟨rfl,rfl,rfl⟩) ?_)
   intro y2 t2 n2 H3 C4
   refine h _ _ H3 (dH.yes (fC f) (gV f.ec) y1 y2 t1 t2 n1 n2) (C4.perm ?_)
   refine List.perm_middle.symm.trans (List.Perm.append_left _ ?_)
   exact (List.Perm.swap _ _ _).trans (List.perm_append_comm (l₁:= [_,_]))
  | yes i e y1 y2 t u n1 n2=>
   have C1:=C0.perm (Il _ _ _).symm
   refine cu hC2 (Ik (i:=6) C1 rfl rfl rfl ?_)
   intro m1 H1 C1
   refine wg (.o (C1.fr _ _ h1) .n) rfl ?_
   refine cu hC2 (yK hN ?_)
   intro H2 le2
   have C3:aj F (base c cnt sp log acts [(.str EI, .ref y1),(.str EC, .ref y2)] cache++([(y1,d9 ie (fC f) t m1),(y2,d9 ie e u n2)]++((a,aY cd n pc st sl ea (.tup [.int f.code, .str f.val, .ref x]))::U))) H2:=C1.le le2
   refine wg .n rfl ?_
   refine cu hC2 (Ik (i:=7) C3 rfl rfl rfl ?_)
   intro m2 H3 C4
   have C5:aj F (base c cnt sp log acts [(.str EI, .ref y1),(.str EC, .ref y2)] cache++([(y1,d9 ie (fC f) t m1),(y2,d9 ie (gV f.ec) u m2)]++((a,aY cd n pc st sl ea (.tup [.int f.code, .str f.val, .ref x]))::U))) H3:=C4
   exact h _ _ H3 (dH.yes (fC f) (gV f.ec) y1 y2 t u m1 m2) (C5.perm (Il _ _ _))
 ·rw [Ip c1] at h
  refine wg (.o (C0.fr _ _ h1) (.f (aM c1) .n)) rfl ?_
  exact h _ _ H hb C0
theorem uV(items:List Txt){k:Nat}{t:Txt}(h:items[k]? =some t):pos items (k+1)=pos items k+eE t:=by
 unfold pos
 rw [List.take_add_one,h,List.map_append,List.sum_append];rfl
theorem VL(t:Txt):3≤eE t:=by
 by_cases h:t= []
 ·rw [h];exact Nat.le_of_ble_eq_true rfl
 ·rw [lO h];exact Nat.le_refl 3
theorem VM(items:List Txt)(k:Nat):pos items k≤pos items (k+1):=by
 induction h:items[k]? using Option.casesOn with
 | some t=>rw [uV items h];exact Nat.le_add_right _ _
 | none=>
  have:=List.getElem?_eq_none_iff.1 h
  unfold pos
  rw [List.take_of_length_le this,List.take_of_length_le (Nat.le_succ_of_le this)]
  exact Nat.le_refl _
theorem uW(items:List Txt){i j:Nat}(h:i≤j):pos items i≤pos items j:=by
 induction h with
 | refl=>exact Nat.le_refl _
 | step _ ih=>exact Nat.le_trans ih (VM _ _)
theorem rF(items:List Txt){i j:Nat}(h:i<j)(hi:i<items.length):pos items i+3≤pos items j:=by
 have h1:=uV items (List.getElem?_eq_getElem hi)
 exact Nat.le_trans (Nat.add_le_add_left (VL items[i]) _) (h1▸uW items (show i+1≤j from h))
theorem Ir:∀l:List Txt,(l.map eE).sum≤5*l.length
 | []=>Nat.le_refl 0
 | t::r=>by
  show eE t+(r.map eE).sum≤5*r.length+5
  rw [Nat.add_comm];exact Nat.add_le_add (Ir r) (HS t)
theorem VN(items:List Txt)(k:Nat):pos items k≤5*items.length:=
 Nat.le_trans (Ir _) (Nat.mul_le_mul_left 5 (by rw [List.length_take];exact Nat.min_le_right _ _))
noncomputable def pB(sh:aN):List (Nat×Nat×Txt):=
 (((List.range sh.items.length).filter fun k=>(sh.owned[k]?).getD false).map fun k=>(pos sh.items k+2,pos sh.items k+3,[114,32]++(sh.items[k]?).getD []))++ [(0,pos sh.items sh.upto+(if sh.upto<sh.items.length then 2 else 0),sh.main)]
noncomputable def Iu(e:Nat×Nat×Txt):V:= .tup [.int (e.1:Nat), .int (e.2.1:Nat), .str e.2.2]
theorem VP(sh:aN):rC sh sh.items.length++ [lN sh]=(pB sh).map Iu:=by
 unfold rC pB
 rw [List.map_append,List.map_map];rfl
noncomputable def iK(pl:Nat)(e:Nat×Nat×Txt):Bool:=decide (e.1≤pl) && decide (pl<e.2.1)
theorem yU{pl:Nat}{e:Nat×Nat×Txt}(h:e.1≤pl)(k:pl<e.2.1):iK pl e=true:=by unfold iK;rw [aL h,aL k];rfl
theorem Iv{pl:Nat}{e:Nat×Nat×Txt}(h: ¬e.1≤pl):iK pl e=false:=by unfold iK;rw [bc h];rfl
theorem yV{pl:Nat}{e:Nat×Nat×Txt}(h: ¬pl<e.2.1):iK pl e=false:=by unfold iK;rw [bc h,Bool.and_false]
noncomputable def bG(sh:aN)(k:Nat):Option Txt:=if (sh.owned[k]?).getD false then some ([114,32]++(sh.items[k]?).getD []) else if k<sh.upto then some sh.main else none
noncomputable def bT(f:aK):Option Txt→aK
 | none=>f
 | some t=>eU f t
theorem VV{sh:aN}{k:Nat}(hk:k<sh.items.length):((pB sh).find? (iK (pos sh.items k+2))).map (·.2.2)=bG sh k:=by
 have key:∀ks:List Nat,(∀j∈ks,j<sh.items.length)→(ks.map fun k=>(pos sh.items k+2,pos sh.items k+3,([114,32]++(sh.items[k]?).getD []:Txt))).find? (iK (pos sh.items k+2))=if k∈ks then some (pos sh.items k+2,pos sh.items k+3,[114,32]++(sh.items[k]?).getD []) else none:=by
  intro ks
  induction ks with
  | nil=>intro _;rfl
  | cons j ks ih=>
   intro hj
   have hj0:=hj j List.mem_cons_self
   rw [List.map_cons,List.find?_cons]
   by_cases e:j=k
   ·subst e
    have t1:iK (pos sh.items j+2) (pos sh.items j+2,pos sh.items j+3,[114,32]++(sh.items[j]?).getD [])=true:=yU (Nat.le_refl _) (Nat.lt_succ_self _)
    rw [t1,if_pos List.mem_cons_self]
   ·have:iK (pos sh.items k+2) (pos sh.items j+2,pos sh.items j+3,[114,32]++(sh.items[j]?).getD [])=false:=by
     rcases Nat.lt_or_gt_of_ne e with l | l
     ·exact yV (Nat.not_lt_of_le (Nat.le_trans (rF sh.items l hj0) (Nat.le_add_right _ _)))
     ·exact Iv fun z=>Nat.not_lt_of_le (Nat.le_of_add_le_add_right z) (Nat.lt_of_lt_of_le (Nat.lt_add_of_pos_right (Nat.zero_lt_succ 2)) (rF sh.items l hk))
    rw [this]
    refine (ih (fun x m=>hj x (List.mem_cons_of_mem _ m))).trans ?_
    by_cases m:k∈ks
    ·rw [if_pos m,if_pos (List.mem_cons_of_mem _ m)]
    ·rw [if_neg m,if_neg fun z=>(List.mem_cons.1 z).elim (fun z=>e z.symm) m]
 have hmem:∀j∈(List.range sh.items.length).filter fun k=>(sh.owned[k]?).getD false,j<sh.items.length:=fun j m=>List.mem_range.1 (List.mem_filter.1 m).1
 unfold pB bG
 rw [List.find?_append,key _ hmem]
 by_cases ho:(sh.owned[k]?).getD false=true
 ·rw [if_pos (List.mem_filter.2 ⟨List.mem_range.2 hk,ho⟩),if_pos ho];rfl
 ·have nm: ¬k∈(List.range sh.items.length).filter fun k=>(sh.owned[k]?).getD false:=fun m=>ho (List.mem_filter.1 m).2
  rw [if_neg nm,if_neg ho,Option.none_or,List.find?_cons]
  by_cases hu:k<sh.upto
  ·rw [yU (Nat.zero_le _) (Nat.lt_of_lt_of_le (Nat.lt_succ_self _) (Nat.le_trans (rF sh.items hu hk) (Nat.le_add_right _ _))),if_pos hu];rfl
  ·have h1:=Nat.le_of_not_lt hu
   rw [yV (by
    show¬_<pos sh.items sh.upto+_
    rw [if_pos (Nat.lt_of_le_of_lt h1 hk)]
    exact Nat.not_lt_of_le (Nat.add_le_add_right (uW sh.items h1) 2)),if_neg hu];rfl
noncomputable def Iw(a x:Nat)(pl:Int)(tl:Loc):Loc:=("act", .ref a)::("raised", .ref x)::("place", .int pl)::tl
theorem V0{N d:Nat}{C:aO}(hC:C=au tab N (d+3)){hd:Option Nat}{a pl x ex:Nat}{pi:Int}{f:aK}{src:MH→Prop}{H:MH}{body:List St}(hb:wI.body[1]? =some (.each (.names ["first","behind","text"]) false (.attr (.attr (.loc "act") "code") "sources") body)){Q:QS}
  (hp:pi=(pl:Int)) (hx:H x=some (cG f ex)) (hv:f.val.length≤100000) (hi:f.info.length≤100000) (hsrc:src H):
  ∀(es:List (Nat×Nat×Txt)) (tl:Loc),(∀e∈es,e.2.2.length≤100000)→
   (∀tl,(es.find? (iK pl))=none→Q .next (Iw a x pi tl) H)→
   (∀l e,(es.find? (iK pl))=some e→Q (.ret .none) l (H.upd x (cG (eU f e.2.2) ex)))→
   cT C N hd (.names ["first","behind","text"]) body src (es.map Iu) (Iw a x pi tl) H Q:=by
 cases hb
 subst hp
 intro es
 induction es with
 | nil=>exact fun tl zz h1 zz=>fW hsrc (h1 tl rfl)
 | cons e es ih=>
  intro tl hl h1 h2
  rw [List.find?_cons] at h1 h2
  have next:=ih (gR ["first","behind","text"] [.int (e.1:Nat), .int (e.2.1:Nat), .str e.2.2] tl) fun e m=>hl e (List.mem_cons_of_mem _ m)
  refine fX hC hsrc ?_
  by_cases c1:e.1≤pl
  ·have a1:(e.1:Int)≤(pl:Int):=j9 c1
   by_cases c2:pl<e.2.1
   ·have a2:(pl:Int)<(e.2.1:Int):=fZ c2
    rw [yU c1 c2] at h2
    refine wg (.v (gw 0 rfl rfl) (.t (aL a1) (.v rfl (.v (gw 1 rfl rfl) (.t (aL a2) (.v rfl (.v (gw 2 rfl rfl) .n))))))) rfl ?_
    refine cu hC (Ua hx (hl e List.mem_cons_self) hv hi ?_)
    refine wg .n rfl ?_
    exact h2 _ e rfl
   ·have a2: ¬(pl:Int)<(e.2.1:Int):=iC c2
    rw [yV c2] at h1 h2
    refine wg (.v (gw 0 rfl rfl) (.t (aL a1) (.v rfl (.v (gw 1 rfl rfl) (.f (bc a2) (.f (bc a2) .n)))))) rfl ?_
    exact next h1 h2
  ·have a1: ¬(e.1:Int)≤(pl:Int):=gF c1
   rw [Iv c1] at h1 h2
   refine wg (.v (gw 0 rfl rfl) (.f (bc a1) (.f (bc a1) .n))) rfl ?_
   exact next h1 h2
theorem V1{sh:aN}(g:bZ sh):∀e∈pB sh,e.2.2.length≤100000:=by
 intro e m
 rcases List.mem_append.1 m with m | m
 ·obtain ⟨k,mk,rfl⟩:=List.mem_map.1 m
  have hk:=List.mem_range.1 (List.mem_filter.1 mk).1
  show ([114,32]++(sh.items[k]?).getD []).length≤_
  rw [List.getElem?_eq_getElem hk]
  exact fY (aC (lk 2 rfl) (g.names _ (List.getElem_mem hk)).2) rfl
 ·obtain rfl:=List.mem_singleton.1 m;exact fY g.main.2 rfl
theorem V2{N d:Nat}{hd:Option Nat}{H:MH}{Q:Q1}{E:E1}{a x ex cd n st sl ea k:Nat}{cv:V}{f:aK}{sh:aN}(g:bZ sh)(hk:k<sh.items.length)
  (ha:H a=some (aY cd n (pos sh.items k+3:Nat) st sl ea cv)) (hc:dz H cd sh) (hx:H x=some (cG f ex)) (hf:bO f)
  (h:Q .none (H.upd x (cG (bT f (bG sh k)) ex))):
  au tab N (d+4) hd (.con (.ref 209)) [.ref a, .ref x] H Q E:=by
 refine kf wI rfl rfl fun C hC=> ?_
 obtain ⟨r,rg,nn,s,h1,_,_,_,h5⟩:=id hc
 rw [VP] at h5
 have hfs:=VV hk
 refine wg (.o ha (.o ha (.o h1 (.o h5 .n)))) rfl ?_
 refine V0 hC (pl:=pos sh.items k+2) rfl (Int.add_sub_cancel ((pos sh.items k+2:Nat):Int) 1) hx hf.val.len hf.info.len ?_ (pB sh) [] (V1 g) ?_ ?_
 ·exact h5
 ·intro tl e
  rw [e] at hfs
  rw [←hfs] at h
  have h':Q .none (H.upd x (cG f ex)):=h
  rw [oN hx] at h'
  refine wg .n rfl ?_
  exact h'
 ·intro l e' e
  rw [e] at hfs
  rw [←hfs] at h
  exact h
noncomputable def dB(k:Nat)(code:Int)(r:Rng):Bool:=decide (r.lo≤k) && decide (k≤r.hi) && (r.ca || code==3 || (code==4 && r.ct.isSome))
theorem Iz{k:Nat}{code:Int}{r:Rng}(h: ¬r.lo≤k):dB k code r=false:=by unfold dB;rw [bc h];rfl
theorem IK{k:Nat}{code:Int}{r:Rng}(h: ¬k≤r.hi):dB k code r=false:=by unfold dB;rw [bc h,Bool.and_false];rfl
theorem IV{k:Nat}{code:Int}{r:Rng}(h:r.lo≤k)(h':k≤r.hi):dB k code r=(r.ca || code==3 || (code==4 && r.ct.isSome)):=by unfold dB;rw [aL h,aL h'];rfl
noncomputable def dW(sh:aN)(k:Nat)(code:Int):Option Rng:=sh.ranges.reverse.find? (dB k code)
theorem V3{sh:aN}(g:bZ sh){r:Rng}(hr:r∈sh.ranges){k:Nat}(hk:k<sh.items.length):(gh sh.items r≤pos sh.items k+2↔r.lo≤k)∧(pos sh.items k+2<gJ sh.items r↔k≤r.hi):=by
 obtain ⟨g1,g2,_⟩:=g.rng r hr
 have f1:pos sh.items r.lo≤gh sh.items r:=Nat.le_add_right _ _
 have f2:gh sh.items r≤pos sh.items r.lo+2:=Nat.add_le_add_left (by by_cases e:r.late=true;rw [if_pos e];exact Nat.le_refl 2;rw [if_neg e];exact Nat.zero_le 2) _
 have b1:pos sh.items (r.hi+1)≤gJ sh.items r:=Nat.le_add_right _ _
 have b2:gJ sh.items r≤pos sh.items (r.hi+1)+2:=Nat.add_le_add_left (by by_cases e:r.over=true∧r.hi+1<sh.items.length;rw [if_pos e];exact Nat.le_refl 2;rw [if_neg e];exact Nat.zero_le 2) _
 refine ⟨⟨fun h=>Nat.le_of_not_lt fun l=> ?_,fun h=>Nat.le_trans f2 (Nat.add_le_add_right (uW sh.items h) 2)⟩,⟨fun h=>Nat.le_of_not_lt fun l=> ?_,fun h=> ?_⟩⟩
 ·exact Nat.not_succ_le_self _ (Nat.le_trans (rF sh.items l hk) (Nat.le_trans f1 h))
 ·exact Nat.not_lt_of_le (Nat.le_trans b2 (Nat.add_le_add_right (uW sh.items (show r.hi+1≤k from l)) 2)) h
 ·exact Nat.lt_of_lt_of_le (Nat.lt_succ_self _) (Nat.le_trans (rF sh.items (Nat.lt_succ_of_le h) hk) b1)
noncomputable def yW(rg:Nat)(pl code:Int)(tl:Loc):Loc:=("ranges", .ref rg)::("place", .int pl)::("code", .int code)::tl
theorem V4{N d:Nat}{C:aO}(hC:C=au tab N (d+1)){hd:Option Nat}{rg k:Nat}{code:Int}{sh:aN}(g:bZ sh)(hk:k<sh.items.length){src:MH→Prop}{H:MH}{body:List St}(hb:wH.body[0]? =some (.each (.name "held") false (.loc "ranges") body)){Q:QS}
  (hsrc:src H):
  ∀(rs:List Rng) (tl:Loc),(∀r∈rs,r∈sh.ranges)→
   (∀tl,(rs.find? (dB k code))=none→Q .next (yW rg (pos sh.items k+2:Nat) code tl) H)→
   (∀l r,(rs.find? (dB k code))=some r→Q (.ret (gZ sh.items r)) l H)→
   cT C N hd (.name "held") body src (rs.map (gZ sh.items)) (yW rg (pos sh.items k+2:Nat) code tl) H Q:=by
 cases hb
 intro rs
 induction rs with
 | nil=>exact fun tl zz h1 zz=>fW hsrc (h1 tl rfl)
 | cons r rs ih=>
  intro tl hl h1 h2
  have hr:=V3 g (hl r List.mem_cons_self) hk
  rw [List.find?_cons] at h1 h2
  have no:dB k code r=false→cT C N hd (.name "held") _ src (rs.map (gZ sh.items)) (yW rg (pos sh.items k+2:Nat) code (gR ["kind","first","behind","to_break","to_continue","depth"] [.str (iH r.ca), .int (gh sh.items r:Nat), .int (gJ sh.items r:Nat), .int (gY sh.items r.bt r.be:Nat),nA sh.items r.ct, .int (r.dep:Nat)] (bu tl "held" (gZ sh.items r)))) H Q:=fun e=>by
   rw [e] at h1 h2
   exact ih _ (fun e m=>hl e (List.mem_cons_of_mem _ m)) h1 h2
  have yes:dB k code r=true→∀l,Q (.ret (gZ sh.items r)) l H:=fun e l=>by
   rw [e] at h2
   exact h2 l r rfl
  have ek:(iH r.ca== [99,97,116,99,104])=r.ca:=by induction r.ca using Bool.casesOn<;>rfl
  refine fX hC hsrc ?_
  by_cases c1:r.lo≤k
  ·have a1:((gh sh.items r:Nat):Int)≤((pos sh.items k+2:Nat):Int):=j9 (hr.1.2 c1)
   by_cases c2:k≤r.hi
   ·have a2:((pos sh.items k+2:Nat):Int)<((gJ sh.items r:Nat):Int):=fZ (hr.2.2 c2)
    rw [IV c1 c2] at yes no
    induction hca:r.ca using Bool.casesOn with
    | true=>
     have e2:=ek.trans hca
     refine wg (.v aP (.v (gw 1 rfl rfl) (.t (aL a1) (.v rfl (.v (gw 2 rfl rfl) (.t (aL a2) (.v (gw 0 rfl rfl) (.t e2 (.t e2 (.v (bJ rfl aP) .n)))))))))) rfl ?_
     exact yes (by rw [hca];rfl) _
    | false=>
     have e2:=ek.trans hca
     by_cases c3:code=3
     ·refine wg (.v aP (.v (gw 1 rfl rfl) (.t (aL a1) (.v rfl (.v (gw 2 rfl rfl) (.t (aL a2) (.v (gw 0 rfl rfl) (.f e2 (.t (aR c3) (.t (aR c3) (.v (bJ rfl aP) .n))))))))))) rfl ?_
      exact yes (by rw [aR c3,Bool.or_true];rfl) _
     ·by_cases c4:code=4
      ·induction hct:r.ct using Option.casesOn with
       | none=>
        have e3:isNone (nA sh.items r.ct)=true:=by rw [hct];rfl
        refine wg (.v aP (.v (gw 1 rfl rfl) (.t (aL a1) (.v rfl (.v (gw 2 rfl rfl) (.t (aL a2) (.v (gw 0 rfl rfl) (.f e2 (.f (aM c3) (.t (aR c4) (.v (gw 4 rfl rfl) (.t rfl (.f (bY e3) (.f (bY e3) .n)))))))))))))) rfl ?_
        exact no (by rw [hca,aM c3,hct];exact Bool.and_false _)
       | some t=>
        have e3:isNone (nA sh.items r.ct)=false:=by rw [hct];rfl
        refine wg (.v aP (.v (gw 1 rfl rfl) (.t (aL a1) (.v rfl (.v (gw 2 rfl rfl) (.t (aL a2) (.v (gw 0 rfl rfl) (.f e2 (.f (aM c3) (.t (aR c4) (.v (gw 4 rfl rfl) (.t rfl (.t (j8 e3) (.v (bJ rfl aP) .n)))))))))))))) rfl ?_
        exact yes (by rw [hca,aM c3,aR c4,hct];rfl) _
      ·refine wg (.v aP (.v (gw 1 rfl rfl) (.t (aL a1) (.v rfl (.v (gw 2 rfl rfl) (.t (aL a2) (.v (gw 0 rfl rfl) (.f e2 (.f (aM c3) (.f (aM c4) (.f (aM c4) .n))))))))))) rfl ?_
       exact no (by rw [hca,aM c3,aM c4];rfl)
   ·have a2: ¬((pos sh.items k+2:Nat):Int)<((gJ sh.items r:Nat):Int):=iC fun z=>c2 (hr.2.1 z)
    refine wg (.v aP (.v (gw 1 rfl rfl) (.t (aL a1) (.v rfl (.v (gw 2 rfl rfl) (.f (bc a2) (.f (bc a2) .n))))))) rfl ?_
    exact no (IK c2)
  ·have a1: ¬((gh sh.items r:Nat):Int)≤((pos sh.items k+2:Nat):Int):=gF fun z=>c1 (hr.1.1 z)
   refine wg (.v aP (.v (gw 1 rfl rfl) (.f (bc a1) (.f (bc a1) .n)))) rfl ?_
   exact no (Iz c1)
theorem V5{N d:Nat}{hd:Option Nat}{H:MH}{Q:Q1}{E:E1}{rg k:Nat}{code:Int}{sh:aN}(g:bZ sh)(hk:k<sh.items.length)
  (hr:H rg=some (.list (sh.ranges.map (gZ sh.items)).reverse))
  (h1:dW sh k code=none→Q .none H) (h2:∀r,dW sh k code=some r→Q (gZ sh.items r) H):
  au tab N (d+2) hd (.con (.ref 202)) [.ref rg, .int (pos sh.items k+2:Nat), .int code] H Q E:=by
 refine kf wH rfl rfl fun C hC=> ?_
 rw [←List.map_reverse] at hr
 refine wg (.o hr .n) rfl ?_
 refine V4 (code:=code) hC g hk rfl ?_ sh.ranges.reverse [] (fun r m=>List.mem_reverse.1 m) ?_ fun l r e=>h2 r e
 ·exact hr
 ·intro tl e
  refine wg .n rfl ?_
  exact h1 e
noncomputable def cO(r:Rng)(code:Int):Nat×Bool:=if r.ca=false∧code=4 then (r.ct.getD 0,false) else (r.bt,r.be)
theorem pC{r:Rng}{code:Int}(h: ¬(r.ca=false∧code=4)):cO r code=(r.bt,r.be):=if_neg h
theorem IW{r:Rng}{code:Int}{t:Nat}(h:r.ca=false)(h':code=4)(e:r.ct=some t):cO r code=(t,false):=by unfold cO;rw [if_pos ⟨h,h'⟩,e];rfl
theorem aj.swapSt{F:MH}{H:MH}{p q y:Nat×O}{B T vc:List (Nat×O)}(h:aj F (y::(B++((p::q::T)++vc))) H):aj F (B++((p::y::T)++vc)) H:=
 (h.sub (List.Sublist.cons_cons _ (List.Sublist.append_left (List.Sublist.cons_cons _ (List.sublist_cons_self _ _)) _))).perm (yR _ _ _ _)
theorem V6:bB cL (.str [99,97,117,103,104,116])=true∧aW cL (.str [99,97,117,103,104,116])=some (.con (.ref 806)):=⟨rfl,rfl⟩
theorem V7{N d:Nat}{hd:Option Nat}{c:MC}{p:List (Nat×Txt×Nat)}{cnt sp:Nat}{log:List (Txt×List (List Txt))}{acts:List V}{es cache:List (V×V)}{T vc:List (Nat×O)}{F H:MH}{Q:Q1}{E:E1}
  {a cd n st sl ea x ex:Nat} {pc:Int} {cv:V} {s:List Txt} {f:aK} {bk:Option (Txt×Txt)} {r:Rng} {items:List Txt} (hN:200000≤N) (hb:dH bk es vc) (fz:cW c p F)
  (Cx:aj F ((x,cG f ex)::(base c cnt sp log acts es cache++(((a,aY cd n pc st sl ea cv)::(st,aZ s)::T)++vc))) H) (hex:F ex=some (cB f.ex)) (hf:bO f) (hs:s.length≤1000) (hdep:r.dep≤3)
  (hct:r.ca=false→f.code=4→r.ct≠none)
  (hQ:∀F' H' st' cv' es' vc',Le F F'→(r.ca=true→g8 F' cv' (some f))→dH (if r.ca then iJ bk f else bk) es' vc'→
    aj F' (base c cnt sp log acts es' cache++(((a,aY cd n (gY items (cO r f.code).1 (cO r f.code).2:Nat) st' sl ea cv')::(st',aZ (s.take r.dep))::T)++vc')) H'→Q .none H'):
  au tab N (d+9) hd (.con (.ref 272)) [.ref c.m, .ref a,gZ items r, .ref x] H Q E:=by
 refine kf Bq rfl rfl fun C hC=> ?_
 obtain ⟨C0,le0⟩:=Cx.frz
 have hF0:(F.upd x (cG f ex)) x=some (cG f ex):=cF _ _ _
 generalize F.upd x (cG f ex)=F0 at C0 le0 hF0
 have fo:=le0 _ _ fz.ops
 obtain ⟨o1,o2⟩:=V6
 have o3:=congrArg Option.isSome o2
 have e4:cI (List.map V.str s) none (some r.dep)=(s.take r.dep).map V.str:=List.map_take.symm
 refine wg (.o (C0.at 6 rfl) .n) rfl ?_
 refine pq (C0.at 7 rfl) rfl (rB (Nat.lt_of_le_of_lt hdep (Nat.le_of_ble_eq_true rfl))) e4 (fY (cM hs) rfl) fun st' hst=> ?_
 have C2:=C0.new (.list ((s.take r.dep).map V.str)) hst
 have ek:(iH r.ca== [99,97,116,99,104])=r.ca:=by induction r.ca using Bool.casesOn<;>rfl
 induction hca:r.ca using Bool.casesOn with
 | true=>
  have ek2:=ek.trans hca
  rw [pC fun z=>(nomatch hca.symm.trans z.1),if_pos hca] at hQ
  have hcv:g8 F0 (.tup [.int f.code, .str f.val, .ref x]) (some f):=⟨x,ex,rfl,hF0,le0 _ _ hex,hf⟩
  refine wg (.o (C2.at 7 rfl) (.o aq (.t ek2 (.o (((C2.set 7 _ rfl).set 7 _ rfl).fr _ _ hF0) (.o (((C2.set 7 _ rfl).set 7 _ rfl).fr _ _ hF0) (.o aq (.o ((((C2.set 7 _ rfl).set 7 _ rfl).set 7 _ rfl).at 1 rfl) (.o ((((C2.set 7 _ rfl).set 7 _ rfl).set 7 _ rfl).fr _ _ fo) (.t o1 (.o ((((C2.set 7 _ rfl).set 7 _ rfl).set 7 _ rfl).at 1 rfl) (.o ((((C2.set 7 _ rfl).set 7 _ rfl).set 7 _ rfl).fr _ _ fo) (.t o1 (.v o2 .n))))))))))))) rfl ?_
  refine cu hC (VK hN hb ((C2.set 7 _ rfl).set 7 _ rfl |>.set 7 _ rfl).swapSt hcv ?_)
  intro es' vc' H6 hb' C6
  exact hQ F0 H6 st' _ es' vc' le0 (fun zz=>hcv) hb' C6
 | false=>
  have ek2:=ek.trans hca
  rw [if_neg fun z:r.ca=true=>(nomatch hca.symm.trans z:False)] at hQ
  by_cases c4:f.code=4
  ·induction ht:r.ct using Option.casesOn with
   | none=>exact absurd ht (hct hca c4)
   | some t=>
    have eo:nA items r.ct= .int (gY items t false:Nat):=by rw [ht];rfl
    rw [IW hca c4 ht] at hQ
    refine wg (.o (C2.at 7 rfl) (.o aq (.f ek2 (.o (((C2.set 7 _ rfl).set 7 _ rfl).fr _ _ hF0) (.t (aR c4) (.o aq .n)))))) rfl ?_
    exact hQ F0 _ st' cv es vc le0 (fun h=>(nomatch hca.symm.trans h)) hb (eo▸((C2.set 7 _ rfl).set 7 _ rfl |>.set 7 _ rfl).swapSt)
  ·rw [pC fun z=>c4 z.2] at hQ
   refine wg (.o (C2.at 7 rfl) (.o aq (.f ek2 (.o (((C2.set 7 _ rfl).set 7 _ rfl).fr _ _ hF0) (.f (aM c4) .n))))) rfl ?_
   exact hQ F0 _ st' cv es vc le0 (fun h=>(nomatch hca.symm.trans h)) hb ((C2.set 7 _ rfl).set 7 _ rfl).swapSt
noncomputable def rG:X:= .cmp (.call (.k (.con (.builtin "len"))) [(.attr (.loc "self") "acts")]) .gt (.k (.int 0))
noncomputable def rH:List St:=match (s7.body:List St) with
 | .loop _ b::_=>b
 | _=> []
theorem YB:s7.body= [.loop rG rH, .raise (.loc "raised")]:=rfl
theorem V8(f:aK)(t:Txt):(eU f t).code=f.code∧(eU f t).ex=f.ex∧(eU f t).val=f.val:=by
 by_cases h:f.code=1
 ·unfold eU;rw [if_pos h];exact ⟨rfl,rfl,rfl⟩
 ·rw [uC h];exact ⟨rfl,rfl,rfl⟩
theorem rI(f:aK):∀o:Option Txt,(bT f o).code=f.code∧(bT f o).ex=f.ex∧(bT f o).val=f.val
 | none=>⟨rfl,rfl,rfl⟩
 | some t=>V8 f t
theorem uX{sh:aN}{k:Nat}{code:Int}{r:Rng}(h:dW sh k code=some r):r∈sh.ranges∧dB k code r=true:=
 ⟨List.mem_reverse.1 (List.mem_of_find?_eq_some h),List.find?_some h⟩
theorem V9{N d:Nat}{hd:Option Nat}{H:MH}{Q:Q1}{E:E1}{rg k:Nat}{pi code:Int}{sh:aN}(hp:pi=((pos sh.items k+2:Nat):Int))(g:bZ sh)(hk:k<sh.items.length)
  (hr:H rg=some (.list (sh.ranges.map (gZ sh.items)).reverse))
  (h1:dW sh k code=none→Q .none H) (h2:∀r,dW sh k code=some r→Q (gZ sh.items r) H):
  au tab N (d+2) hd (.con (.ref 202)) [.ref rg, .int pi, .int code] H Q E:=by subst hp;exact V5 g hk hr h1 h2
noncomputable def kJ(m x:Nat)(tl:Loc):Loc:=("self", .ref m)::("raised", .ref x)::tl
theorem Wa{N d:Nat}{C:aO}(hC:C=au tab N (d+11)){hd:Option Nat}{c:MC}{p:List (Nat×Txt×Nat)}{cnt sp:Nat}{log:List (Txt×List (List Txt))}{as:List V}{es cache:List (V×V)}{T vc:List (Nat×O)}{F H:MH}{Q:QS}{E:ES}
  {a cd n st sl ea x ex k j:Nat} {cv:V} {nt:Txt} {f:aK} {bk:Option (Txt×Txt)} {sh:aN} {tl:Loc} {s:List Txt} (hN:200000≤N) (hb:dH bk es vc) (fz:cW c p F) (g:bZ sh) (hk:k<sh.items.length)
  (C0:aj F ((x,cG f ex)::(base c cnt sp log (as++ [.ref a]) es cache++(((a,aY cd n (pos sh.items k+3:Nat) st sl ea cv)::(st,aZ s)::T)++vc))) H)
  (hcd:dz F cd sh) (hnn:F n=some (gH nt)) (hex:F ex=some (cB f.ex)) (hf:bO f) (hf':bO (bT f (bG sh k))) (hs:s.length≤1000) (hal:as.length≤1000)
  (h1:dW sh k f.code=none→∀H' tl,aj F ((x,cG (bT f (bG sh k)) ex)::(base c cnt sp log as es cache++(T++vc))) H'→eO C N hd rG rH E j (kJ c.m x tl) H' Q)
  (h2:∀r,dW sh k f.code=some r→∀F' H' st' cv' es' vc' l,Le F F'→(r.ca=true→g8 F' cv' (some (bT f (bG sh k))))→dH (if r.ca then iJ bk (bT f (bG sh k)) else bk) es' vc'→
    aj F' (base c cnt sp log (as++ [.ref a]) es' cache++(((a,aY cd n (gY sh.items (cO r f.code).1 (cO r f.code).2:Nat) st' sl ea cv')::(st',aZ (s.take r.dep))::T)++vc')) H'→Q (.ret .none) l H'):
  eO C N hd rG rH E (j+1) (kJ c.m x tl) H Q:=by
 have p1:=nj (x:=V.ref a) hal
 have p2:=nq (as:=as) (x:=V.ref a)
 have p3:=uN (as:=as) (x:=V.ref a)
 have p5:(as++ [V.ref a]).length≤1001:=aC hal (lk 1 rfl)
 refine kl hC ?_
 refine wg (.o (C0.at 1 rfl) (.o (C0.at 3 rfl) (.t (aA p5 rfl) (.t (aL p3) (.o (C0.at 1 rfl) (.o (C0.at 3 rfl) (.k p1 (.v p2 (.v aP .n))))))))) rfl ?_
 refine cu hC (V2 (d:=d+7) g hk (C0.at 7 rfl) (hcd.mono C0.fr) (C0.at 0 rfl) hf ?_)
 have C1:=C0.set 0 (cG (bT f (bG sh k)) ex) rfl
 have nc:=rI f (bG sh k)
 have hex':F ex=some (cB (bT f (bG sh k)).ex):=by rw [nc.2.1];exact hex
 rw [←nc.1] at h1 h2
 generalize bT f (bG sh k)=f' at*
 obtain ⟨r0,rg,nn,s0,q1,_,q3,_,_⟩:=id hcd
 have hG:=C1.fr _ _ q3
 have e1:((pos sh.items k+3:Nat):Int) - 1=((pos sh.items k+2:Nat):Int):=Int.add_sub_cancel ((pos sh.items k+2:Nat):Int) 1
 refine wg (.v aP (.o (C1.at 7 rfl) (.o (C1.fr _ _ q1) (.v rfl (.v aP (.o (C1.at 7 rfl) (.o aq .n))))))) rfl ?_
 refine cu hC (V9 e1 g hk hG ?_ ?_)
 ·intro e
  refine wg (.v aP (.v (aD rfl aP) (.o (C1.at 7 rfl) (.o (C1.fr _ _ hnn) (.o (C1.at 1 rfl) .n))))) rfl ?_
  refine cu hC (HR (d:=d+9) (C1.perm (yR _ _ _ _)) hal hnn ?_)
  intro H2 C2
  refine h1 e H2 (bu (bu tl "act" (.ref a)) "held" .none) ((C2.perm List.perm_middle).sub ?_)
  exact List.Sublist.cons_cons _ (List.Sublist.append_left (List.sublist_cons_self _ _) _)
 ·intro r e
  obtain ⟨hr,htk⟩:=uX e
  obtain ⟨_,_,_,hdep,_⟩:=g.rng r hr
  refine wg (.v aP (.o (C1.at 1 rfl) (.v (aD rfl aP) (.v aP .n)))) rfl ?_
  refine cu hC (V7 (d:=d+2) hN hb fz C1 hex' hf' hs hdep ?_ ?_)
  ·intro hca h4 hct
   unfold dB at htk
   rw [hca,h4,hct] at htk
   exact nomatch (Bool.and_eq_true_iff.1 htk).2
  ·intro F' H' st' cv' es' vc' le hcv hb' C'
   refine wg .n rfl ?_
   exact h2 r e F' H' st' cv' es' vc' _ le hcv hb' C'
noncomputable def uY:X:= .bop true [(.cmp (.attr (.loc "self") "pause") .is (.k .none)),(.cmp (.call (.k (.con (.builtin "len"))) [(.attr (.loc "self") "acts")]) .gt (.k (.int 0)))]
noncomputable def uZ:List St:= [.expr (.meth (.loc "self") "step" [])]
noncomputable def cC(N d:Nat)(c:MC)(K:QS)(E:ES)(n:Nat)(H:MH):Prop:=eO (au tab N (d+14)) N none uY uZ E n [("self", .ref c.m),("host", .ref c.h)] H K
noncomputable def u0(N d:Nat)(c:MC)(K:QS)(E:ES)(j x:Nat):QS:=fun fl l h=>(match fl with
 | .next=>bA (au tab N (d+12)) true N (some x) [.raise (.loc "raised")] l h (cz fun zz H3=>cC N d c K E j H3) (cJ fun y H3=>E y [("self", .ref c.m),("host", .ref c.h)] H3)
 | .cont=>cz (fun zz H3=>cC N d c K E j H3) .cont l h
 | .ret v=>cz (fun zz H3=>cC N d c K E j H3) (.ret v) l h).P
noncomputable def iM(N d:Nat)(c:MC)(K:QS)(E:ES)(j x n:Nat)(loc:Loc)(H:MH):Prop:=
 eO (au tab N (d+12)) N (some x) rG rH (iU fun y H3=>E y [("self", .ref c.m),("host", .ref c.h)] H3) n loc H (u0 N d c K E j x)
theorem I5{N d n:Nat}{c:MC}{K:QS}{E:ES}{cnt sp:Nat}{log:List (Txt×List (List Txt))}{as:List V}{es cache:List (V×V)}{R:List (Nat×O)}{F H:MH}{a:Nat}
  (C0:aj F (base c cnt sp log (as++ [.ref a]) es cache++R) H) (hal:as.length≤1000)
  (h:au tab N (d+14) none (.con (.ref 286)) [.ref c.m] H (fun zz H'=>cC N d c K E n H') (fun x H'=>E x [("self", .ref c.m),("host", .ref c.h)] H')):cC N d c K E (n+1) H:=by
 have p3:=uN (as:=as) (x:=V.ref a)
 have p5:(as++ [V.ref a]).length≤1001:=aC hal (lk 1 rfl)
 have key:∀C,C=au tab N (d+14)→eO C N none uY uZ E (n+1) [("self", .ref c.m),("host", .ref c.h)] H K:=fun C hC=>by
  refine kl hC ?_
  unfold cC at h
  rw [←hC] at h
  refine wg (.o (C0.at 0 rfl) (.o (C0.at 0 rfl) (.o (C0.at 2 rfl) (.t (aA p5 rfl) (.t (aL p3) (.o (C0.at 0 rfl) .n)))))) rfl ?_
  exact h
 exact key _ rfl
theorem Wb{N d n:Nat}{c:MC}{K:QS}{E:ES}{ho:Nat}{steps:Int}{t:Txt}{H:MH}(hM:H c.m=some (.inst 296 [("host", .ref ho),("ops", .ref c.ops),("maker", .con (.ref 895)),("acts", .ref c.al),("book", .ref c.bk),("pause", .none),("steps", .int steps),("text", .str t)]))(hA:H c.al=some (.list []))
  (h:K .next [("self", .ref c.m),("host", .ref c.h)] H):cC N d c K E (n+1) H:=by
 have key:∀C,C=au tab N (d+14)→eO C N none uY uZ E (n+1) [("self", .ref c.m),("host", .ref c.h)] H K:=fun C hC=>by
  refine kl hC ?_
  refine wg (.o hM (.o hM (.o hA .n))) rfl ?_
  exact h
 exact key _ rfl
theorem Wc{N d j x:Nat}{c:MC}{K:QS}{E:ES}{H:MH}(h:iM N d c K E j x N [("self", .ref c.m),("raised", .ref x)] H):
  au tab N (d+13) (some x) (.con (.ref 279)) [.ref c.m, .ref x] H (fun zz H3=>cC N d c K E j H3) (fun y H3=>E y [("self", .ref c.m),("host", .ref c.h)] H3):=by
 refine kf s7 rfl rfl fun C hC=> ?_
 unfold iM u0 at h
 rw [←hC] at h
 refine wg .n rfl ?_
 exact h
theorem We{N d j:Nat}{c:MC}{p:List (Nat×Txt×Nat)}{K:QS}{E:ES}{cnt sp:Nat}{log:List (Txt×List (List Txt))}{as:List V}{es cache:List (V×V)}{R:List (Nat×O)}{F H:MH}{a cd n st sl ea r g nn s pc fa:Nat}{cv:V}{rows:List V}{op:Txt}{av bv:V}
  (fz:cW c p F) (C0:aj F (base c cnt sp log (as++ [.ref a]) es cache++((a,aY cd n pc st sl ea cv)::R)) H) (hal:as.length≤1000)
  (hcd:F cd=some (rA r g nn s)) (hr:F r=some (.list rows)) (hpc:rows[pc]? =some (.tup [.str op,av,bv])) (hrl:rows.length≤1000)
  (ho:bB cL (.str op)=true) (hf:aW cL (.str op)=some (.con (.ref fa)))
  (h:∀(Q':Q1) (E':E1),(∀v H'',cC N d c K E j H''→Q' v H'')→(∀x f ex H'' (k:Nat),H'' x=some (cG f ex)→H'' c.m=some (eY c.h c.ops c.al c.bk k [])→iM N d c K E j x N [("self", .ref c.m),("raised", .ref x)] H''→E' x H'')→
   ∀H',aj F (base c (cnt+1) sp log (as++ [.ref a]) es cache++((a,aY cd n (pc+1:Nat) st sl ea cv)::R)) H'→au tab N (d+13) none (.con (.ref fa)) [.ref c.m, .ref a,av,bv] H' Q' E'):
  cC N d c K E (j+1) H:=by
 refine I5 C0 hal (kf wL rfl rfl fun C hC=> ?_)
 have fo:=fz.ops
 have f3:(aW cL (.str op)).isSome=true:=congrArg Option.isSome hf
 have p1:=nj (x:=V.ref a) hal
 have p2:=nq (as:=as) (x:=V.ref a)
 have hlt:=(List.getElem?_eq_some_iff.1 hpc).1
 have g2: ¬(rows.length:Int)≤(pc:Int):=gF (Nat.not_le_of_lt hlt)
 refine wg (.o (C0.at 0 rfl) (.o (C0.at 2 rfl) (.k p1 (.v p2 (.o (C0.at 6 rfl) (.o (C0.at 6 rfl) (.o (C0.fr _ _ hcd) (.o (C0.fr _ _ hr) (.t (aA hrl rfl) (.f (bc g2) (.o (C0.at 6 rfl) (.o (C0.fr _ _ hcd) (.o (C0.at 6 rfl) (.o (C0.fr _ _ hr) (.k (pl (aA hrl rfl)) (.v hpc (.o (C0.at 6 rfl) (.o (C0.at 6 rfl) (.o ((C0.set 6 _ rfl).at 0 rfl) (.o ((C0.set 6 _ rfl).at 0 rfl) (.o aq (.o ((C0.set 6 _ rfl).set0.fr _ _ fo) (.t ho (.f (bY f3) (.o aq (.o ((C0.set 6 _ rfl).set0.fr _ _ fo) (.t ho (.v hf .n)))))))))))))))))))))))))))) rfl ?_
 refine cu hC (h _ _ (fun v H'' k=> ?_) (fun x f ex H'' k0 hx hm k=> ?_) _ ((C0.set 6 _ rfl).set 0 _ rfl))
 ·exact k
 ·refine wg (.o hx (.o hm .n)) rfl ?_
  exact cu hC (Wc k)
theorem I6{t:Txt}(h:t≠ []):fJ t= [.tup [.str [112,117,115,104], .str [114], .none], .tup [.str [112,117,115,104], .str t, .none], .tup [.str [105,110,118,111,107,101], .int 2, .none]]:=if_neg h
theorem yX(t:Txt):(fJ t).length=eE t:=by
 by_cases h:t= []
 ·subst h;rfl
 ·rw [I6 h,lO h];rfl
theorem Wf(u:Txt)(r:List Txt)(k:Nat):pos (u::r) (k+1)=eE u+pos r k:=rfl
theorem I7(items:List Txt):(items.flatMap fJ).length=pos items items.length:=by
 induction items with
 | nil=>rfl
 | cons u r ih=>rw [List.flatMap_cons,List.length_append,yX,ih];rfl
theorem I8{sh:aN}(g:bZ sh):(sh.items.flatMap fJ).length≤1000:=by
 rw [I7]
 exact Nat.le_trans (VN _ _) (Nat.le_trans (Nat.mul_le_mul_left 5 g.n7) (aQ rfl))
theorem lU(i:Nat)(t:Txt)(hi:i<eE t)(items:List Txt):∀k:Nat,items[k]? =some t→(items.flatMap fJ)[pos items k+i]? =(fJ t)[i]? :=by
 induction items with
 | nil=>exact fun k h=>nomatch h
 | cons u r ih=>
  intro k h
  rw [List.flatMap_cons]
  induction k using Nat.casesOn with
  | zero=>
   cases h
   rw [show pos (t::r) 0+i=i from Nat.zero_add i]
   exact List.getElem?_append_left (by rw [yX];exact hi)
  | succ k=>
   rw [Wf,Nat.add_assoc,←yX u,List.getElem?_append_right (Nat.le_add_right _ _),Nat.add_sub_cancel_left]
   exact ih k h
inductive At(c:MC)(F H:MH)(as:List V)(T:List (Nat×O))(sh:aN)(i:Nat)(e:Option aK)(s:List Txt)(w:Wd):Prop where
 | mk (a cd n st sl ea:Nat) (cv:V) (nt:Txt) (es:List (V×V)) (vc:List (Nat×O)) (l:List (Nat×Nat))
  (C:aj F (base c w.cnt w.log.length w.log (as++ [.ref a]) es (cA l)++(((a,aY cd n (gY sh.items i e.isSome:Nat) st sl ea cv)::(st,aZ s)::T)++vc)) H)
  (hcd:dz F cd sh) (hn:F n=some (gH nt)) (hb:dH w.book es vc) (hc:iI F l) (hl:l.length≤w.log.length) (hv:∀f,e=some f→g8 F cv (some f))
inductive yZ(c:MC)(F H:MH)(as:List V)(T:List (Nat×O))(w:Wd):Prop where
 | mk (es:List (V×V)) (vc:List (Nat×O)) (l:List (Nat×Nat)) (C:aj F (base c w.cnt w.log.length w.log as es (cA l)++(T++vc)) H) (hb:dH w.book es vc) (hc:iI F l) (hl:l.length≤w.log.length)
inductive Fl(c:MC)(F H:MH)(as:List V)(T:List (Nat×O))(w:Wd)(f:aK)(x:Nat):Prop where
 | mk (es:List (V×V)) (vc:List (Nat×O)) (l:List (Nat×Nat)) (ex:Nat) (C:aj F ((x,cG f ex)::(base c w.cnt w.log.length w.log as es (cA l)++(T++vc))) H) (hx:F ex=some (cB f.ex)) (hb:dH w.book es vc) (hc:iI F l) (hl:l.length≤w.log.length)
inductive ji(F:MH)(sh:aN)(i:Nat)(s:List Txt)(a:Nat):List (Nat×O)→Prop where
 | mk (cd n st sl ea:Nat) (cv:V) (nt:Txt) (h2:dz F cd sh) (h3:F n=some (gH nt)):ji F sh i s a [(a,aY cd n (pos sh.items i+3:Nat) st sl ea cv),(st,aZ s)]
theorem ji.mono{F F':MH}{sh:aN}{i:Nat}{s:List Txt}{a:Nat}{U:List (Nat×O)}(h:ji F sh i s a U)(k:Le F F'):ji F' sh i s a U:=by
 cases h with | mk cd n st sl ea cv nt h2 h3=>exact ⟨cd,n,st,sl,ea,cv,nt,h2.mono k,k _ _ h3⟩
noncomputable def rJ(N d:Nat)(c:MC)(K:QS)(E:ES)(j:Nat)(t:Txt)(H:MH):Prop:=
 au tab N (d+12) none (.con (.ref 251)) [.ref c.m, .str t] H (fun zz H''=>cC N d c K E j H'') (fun x H'=>E x [("self", .ref c.m),("host", .ref c.h)] H')
theorem I9{items:List Txt}{i:Nat}{t:Txt}(h:items[i]? =some t)(ht:t≠ []):gY items (i+1) false=pos items i+3:=(uV items h).trans (congrArg (pos items i+ ·) (lO ht))
theorem Wg{items:List Txt}{i:Nat}(h:items[i]? =some []):gY items (i+1) false=pos items i+5:=uV items h
theorem rK{F:MH}{cv:V}:∀f,(none:Option aK)=some f→g8 F cv (some f):=fun zz e=>nomatch e
theorem Wh{N d j:Nat}{c:MC}{K:QS}{E:ES}{F H:MH}{as:List V}{T U:List (Nat×O)}{sh:aN}{i a:Nat}{s:List Txt}{w:Wd}{t nm:Txt}(hm:ji F sh i s a U)(hd:yZ c F H (as++ [.ref a]) (U++T) w)(hal:as.length≤1000)(hs:s.length≤1000)
  (hi:sh.items[i]? =some nm) (hnm:nm≠ [])
  (h:∀H',At c F H' as T sh (i+1) none (s++ [t]) w→cC N d c K E j H'):rJ N d c K E j t H:=by
 cases hm with | mk cd n st sl ea cv nt h2 h3=>
 induction hd using yZ.casesOn with | mk es vc l C h4 h5 h6=>
 refine HQ (d:=d+10) (R:=T++vc) C hal hs fun H' C'=>h H' ⟨a,cd,n,st,sl,ea,cv,nt,es,vc,l, ?_,h2,h3,h4,h5,h6,rK⟩
 rw [show gY sh.items (i+1) (none:Option aK).isSome=_ from I9 hi hnm]
 exact C'
theorem pD{N d j:Nat}{c:MC}{p:List (Nat×Txt×Nat)}{K:QS}{E:ES}{cnt sp:Nat}{log:List (Txt×List (List Txt))}{as:List V}{es cache:List (V×V)}{R:List (Nat×O)}{F H:MH}{a cd n st sl ea pc fa:Nat}{cv:V}{op:Txt}{av bv:V}{sh:aN}
  (fz:cW c p F) (C0:aj F (base c cnt sp log (as++ [.ref a]) es cache++((a,aY cd n pc st sl ea cv)::R)) H) (hal:as.length≤29) (hcd:dz F cd sh) (g:bZ sh) (hpc:(sh.items.flatMap fJ)[pc]? =some (.tup [.str op,av,bv]))
  (ho:bB cL (.str op)=true∧aW cL (.str op)=some (.con (.ref fa)))
  (h:∀(Q':Q1) (E':E1),(∀v H'',cC N d c K E j H''→Q' v H'')→(∀x f ex H'' (k:Nat),H'' x=some (cG f ex)→H'' c.m=some (eY c.h c.ops c.al c.bk k [])→iM N d c K E j x N [("self", .ref c.m),("raised", .ref x)] H''→E' x H'')→
   ∀H',aj F (base c (cnt+1) sp log (as++ [.ref a]) es cache++((a,aY cd n (pc+1:Nat) st sl ea cv)::R)) H'→au tab N (d+13) none (.con (.ref fa)) [.ref c.m, .ref a,av,bv] H' Q' E'):
  cC N d c K E (j+1) H:=by
 induction hcd using dz.casesOn with | mk r rg nl so q1 q2 _ _ _=>
 exact We fz C0 (Nat.le_trans hal (aQ rfl)) q1 q2 hpc (I8 g) ho.1 ho.2 h
theorem Wi:bB cL (.str [112,117,115,104])=true∧aW cL (.str [112,117,115,104])=some (.con (.ref 687)):=⟨rfl,rfl⟩
theorem Wj:bB cL (.str [105,110,118,111,107,101])=true∧aW cL (.str [105,110,118,111,107,101])=some (.con (.ref 757)):=⟨rfl,rfl⟩
theorem Wl:bB cL (.str [109,97,114,107,95,111,107])=true∧aW cL (.str [109,97,114,107,95,111,107])=some (.con (.ref 799)):=⟨rfl,rfl⟩
theorem Wm:bB cL (.str [99,97,117,103,104,116,95,99,111,100,101])=true∧aW cL (.str [99,97,117,103,104,116,95,99,111,100,101])=some (.con (.ref 827)):=⟨rfl,rfl⟩
theorem Wn:bB cL (.str [99,97,117,103,104,116,95,118,97,108,117,101])=true∧aW cL (.str [99,97,117,103,104,116,95,118,97,108,117,101])=some (.con (.ref 813)):=⟨rfl,rfl⟩
theorem Wo:bB cL (.str [99,97,117,103,104,116,95,111,112,116,105,111,110,115])=true∧aW cL (.str [99,97,117,103,104,116,95,111,112,116,105,111,110,115])=some (.con (.ref 820)):=⟨rfl,rfl⟩
theorem zf{N d j:Nat}{c:MC}{p:List (Nat×Txt×Nat)}{K:QS}{E:ES}{cnt sp:Nat}{log:List (Txt×List (List Txt))}{as:List V}{es cache:List (V×V)}{R:List (Nat×O)}{F H:MH}{a cd n st sl ea pc:Nat}{cv:V}{sh:aN}{s:List Txt}{t:Txt}{bv:V}
  (fz:cW c p F) (C0:aj F (base c cnt sp log (as++ [.ref a]) es cache++((a,aY cd n pc st sl ea cv)::(st,aZ s)::R)) H) (hal:as.length≤29) (hcd:dz F cd sh) (g:bZ sh) (hpc:(sh.items.flatMap fJ)[pc]? =some (.tup [.str [112,117,115,104], .str t,bv])) (hs:s.length≤1000)
  (h:∀H',aj F (base c (cnt+1) sp log (as++ [.ref a]) es cache++((a,aY cd n (pc+1:Nat) st sl ea cv)::(st,aZ (s++ [t]))::R)) H'→cC N d c K E j H'):
  cC N d c K E (j+1) H:=
 pD fz C0 hal hcd g hpc Wi fun zz zz hQ zz zz C1=>Vz (d:=d+12) C1 hs fun H2 C2=>hQ _ _ (h H2 C2)
noncomputable def di(w:Wd)(nm:Txt)(stacks:List (List Txt)):Wd:={w with log:=w.log++ [(nm,stacks)],cnt:=w.cnt+3}
theorem Wq{N d k:Nat}{c:MC}{p:List (Nat×Txt×Nat)}{K:QS}{E:ES}{F H:MH}{as:List V}{T:List (Nat×O)}{sh:aN}{i:Nat}{nm:List Nat}{s:List Txt}{w:Wd}{ss:List (List Txt)}
  (fz:cW c p F) (ha:dh T as ss) (g:bZ sh) (hat:At c F H as T sh i none s w) (hi:sh.items[i]? =some nm) (hnm:nm≠ []) (hs:s.length≤24) (hal:as.length≤9) (hl:w.log.length≤100) (hp:p.length=9) (hpk:∀e∈p,e.1<8)
  (hv:∀t,bM p w.log.length= .val t→∀F' H',Le F F'→At c F' H' as T sh (i+1) none (s++ [t]) (di w nm (ss++ [s]))→cC N d c K E k H')
  (hn:∀m,bM p w.log.length= .nest m→m<4→∀F' H' a U,Le F F'→ji F' sh i s a U→At c F' H' (as++ [.ref a]) (U++T) (dU m) 0 none [] (di w nm (ss++ [s]))→cC N d c K E k H')
  (hf:∀f,bM p w.log.length= .flt f→∀F' H' a U x,Le F F'→ji F' sh i s a U→Fl c F' H' (as++ [.ref a]) (U++T) (di w nm (ss++ [s])) f x→iM N d c K E k x N [("self", .ref c.m),("raised", .ref x)] H'):
  cC N d c K E (k+3) H:=by
 induction hat using At.casesOn with | mk a cd n st sl ea cv nt es vc l C hcd hnn hbk hca hcl _=>
 have r0:=lU 0 nm (by rw [lO hnm];exact aQ rfl) sh.items i hi
 have r1:=lU 1 nm (by rw [lO hnm];exact aQ rfl) sh.items i hi
 have r2:=lU 2 nm (by rw [lO hnm];exact aQ rfl) sh.items i hi
 rw [I6 hnm] at r0 r1 r2
 have hal9:as.length≤29:=Nat.le_trans hal (aQ rfl)
 have hs1:(s++ [[114]]).length≤1000:=Nat.le_trans (aC hs (lk 1 rfl)) (aQ rfl)
 have hl1:l.length≤w.log.length+1:=Nat.le_succ_of_le hcl
 have el:(w.log++ [(nm,ss++ [s])]).length=w.log.length+1:=List.length_append
 have ep:gY sh.items (i+1) (none:Option aK).isSome=pos sh.items i+3:=I9 hi hnm
 rw [←el] at hl1
 refine zf (j:=k+2) fz C hal9 hcd g r0 (Nat.le_trans hs (aQ rfl)) fun H2 C2=>zf (j:=k+1) fz C2 hal9 hcd g r1 hs1 fun H4 C4=> ?_
 rw [List.append_assoc] at C4
 refine pD (j:=k) fz C4 hal9 hcd g r2 Wj fun Q3' E3' hQ3 hE3 H5 C5=> ?_
 refine Vy (d:=d+3) (T:=T) (R:=vc) fz C5 ha (Nat.le_trans hs (aQ rfl)) (Nat.le_trans hl (aQ rfl)) (hp▸aQ rfl) hal9 hpk hca (Nat.le_trans hcl (Nat.le_trans hl (aQ rfl))) ?_ ?_ ?_
 ·intro t ht F' H' st' le C'
  refine hQ3 _ _ (hv t ht F' H' le ⟨a,cd,n,st',sl,ea,cv,nt,es,vc,l, ?_,hcd.mono le,le _ _ hnn,hbk,hca.mono le,hl1,rK⟩)
  rw [ep]
  exact (congrArg (fun m=>aj F' (base c (w.cnt+3) m (w.log++ [(nm,ss++ [s])]) _ _ _++_) H') el).mpr C'
 ·intro m hm hm4 a' z' st'' sl' ea' cd' F' H' st' l' le C' hc' hl' hcd' hz'
  refine hQ3 _ _ (hn m hm hm4 F' H' a _ le ⟨cd,n,st',sl,ea,cv,nt,hcd.mono le,le _ _ hnn⟩ ⟨a',cd',z',st'',sl',ea',(V.tup [V.int 0,V.str [],V.none]),[110,48+m],es,vc,l', ?_,hcd',hz',hbk,hc',Nat.le_trans hl' (el▸Nat.succ_le_succ hcl),rK⟩)
  exact (congrArg (fun m=>aj F' (base c (w.cnt+3) m (w.log++ [(nm,ss++ [s])]) _ _ _++_) H') el).mpr C'
 ·intro f hfl F' H' st' x ex le C' hex
  refine hE3 x f ex H' _ (C'.at 0 rfl) (C'.at 1 rfl) (hf f hfl F' H' a _ x le ⟨cd,n,st',sl,ea,cv,nt,hcd.mono le,le _ _ hnn⟩ ⟨es,vc,l,ex, ?_,hex,hbk,hca.mono le,hl1⟩)
  exact (congrArg (fun m=>aj F' (_::(base c (w.cnt+3) m (w.log++ [(nm,ss++ [s])]) _ _ _++_)) H') el).mpr C'
noncomputable def u6:Option aK→Int
 | none=>0
 | some f=>f.code
noncomputable def Ja:Option aK→Txt
 | none=> [102,105,110,101]
 | some f=>f.val
noncomputable def nD(e:Option aK):List Txt:= [eF (u6 e),Ja e,o8 e]
noncomputable def lV(e:Option aK):Nat:=if e.isSome then 3 else 5
theorem g8.sh{F:MH}{cv:V}:∀{o:Option aK},g8 F cv o→∃x,cv= .tup [.int (u6 o), .str (Ja o),x]
 | none,h=>⟨_,h⟩
 | some _,⟨_,_,h,_⟩=>⟨_,h⟩
theorem Jb{N d k:Nat}{c:MC}{p:List (Nat×Txt×Nat)}{K:QS}{E:ES}{F H:MH}{as:List V}{R:List (Nat×O)}{sh:aN}{i:Nat}{s:List Txt}{o:Option aK}{cnt sp:Nat}{log:List (Txt×List (List Txt))}{es cache:List (V×V)}{a cd n st sl ea:Nat}{cv:V}(hN:200000≤N)
  (fz:cW c p F) (g:bZ sh) (hi:sh.items[i]? =some []) (hs:s.length≤24) (hal:as.length≤29) (hcd:dz F cd sh)
  (C:aj F (base c cnt sp log (as++ [.ref a]) es cache++((a,aY cd n (pos sh.items i+2:Nat) st sl ea cv)::(st,aZ s)::R)) H) (hcv:g8 F cv o) (hok:(u6 o).natAbs<10000000000)
  (h:∀H',aj F (base c (cnt+3) sp log (as++ [.ref a]) es cache++((a,aY cd n (pos sh.items i+5:Nat) st sl ea cv)::(st,aZ (s++nD o))::R)) H'→cC N d c K E k H'):
  cC N d c K E (k+3) H:=by
 obtain ⟨x,rfl⟩:=hcv.sh
 have r2:=lU 2 [] (aQ rfl) sh.items i hi
 have r3:=lU 3 [] (aQ rfl) sh.items i hi
 have r4:=lU 4 [] (aQ rfl) sh.items i hi
 have s1:∀t:Txt,(s++ [t]).length≤25:=fun t=>aC hs (lk 1 rfl)
 refine pD (j:=k+2) fz C hal hcd g r2 Wm fun zz zz hQ zz zz C1=>VD (d:=d+11) C1 (Nat.le_trans hs (aQ rfl)) hok fun H2 C2=>hQ _ _ ?_
 refine pD (j:=k+1) fz C2 hal hcd g r3 Wn fun zz zz hQ zz zz C3=>VF (d:=d+11) C3 (Nat.le_trans (s1 _) (aQ rfl)) fun H4 C4=>hQ _ _ ?_
 refine pD (j:=k) fz C4 hal hcd g r4 Wo fun zz zz hQ zz zz C5=>VG (d:=d+4) hN C5 (Nat.le_trans (aC (s1 _) (lk 1 rfl)) (aQ rfl)) hcv fun H6 C6=>hQ _ _ (h H6 ?_)
 rw [List.append_assoc,List.append_assoc] at C6
 exact C6
theorem Jc:∀{o:Option aK},(∀f,o=some f→bO f)→(u6 o).natAbs<10000000000
 | none,_=>aQ rfl
 | some f,h=>(h f rfl).code.plain.2.2
theorem Wr{N d k:Nat}{c:MC}{p:List (Nat×Txt×Nat)}{K:QS}{E:ES}{F H:MH}{as:List V}{T:List (Nat×O)}{sh:aN}{i:Nat}{s:List Txt}{e:Option aK}{w:Wd}(hN:200000≤N)
  (fz:cW c p F) (g:bZ sh) (hat:At c F H as T sh i e s w) (hi:sh.items[i]? =some []) (hs:s.length≤24) (hal:as.length≤29) (hfe:∀f,e=some f→bO f)
  (h:∀H',At c F H' as T sh (i+1) none (s++nD e) {w with cnt:=w.cnt+lV e}→cC N d c K E k H'):
  cC N d c K E (k+lV e) H:=by
 induction hat using At.casesOn with | mk a cd n st sl ea cv nt es vc l C hcd hnn hbk hca hcl hcv=>
 have ep:gY sh.items (i+1) (none:Option aK).isSome=_:=Wg hi
 induction e using Option.casesOn with
 | some f=>
  refine Jb hN fz g hi hs hal hcd C (hcv f rfl) (Jc hfe) fun H' C'=>h H' ⟨a,cd,n,st,sl,ea,cv,nt,es,vc,l, ?_,hcd,hnn,hbk,hca,hcl,rK⟩
  rw [ep];exact C'
 | none=>
  have r0:=lU 0 [] (aQ rfl) sh.items i hi
  have r1:=lU 1 [] (aQ rfl) sh.items i hi
  refine zf (j:=k+4) fz C hal hcd g r0 (Nat.le_trans hs (aQ rfl)) fun H2 C2=> ?_
  refine pD (j:=k+3) fz C2 hal hcd g r1 Wl fun zz zz hQ zz zz C3=>VB (d:=d+12) C3 (Nat.le_trans hs (aQ rfl)) fun H4 C4=>hQ _ _ ?_
  refine Jb (o:=none) hN fz g hi hs hal hcd C4 rfl (Jc hfe) fun H' C'=>h H' ⟨a,cd,n,st,sl,ea, .tup [.int 0, .str [102,105,110,101], .none],nt,es,vc,l, ?_,hcd,hnn,hbk,hca,hcl,rK⟩
  rw [ep];exact C'
theorem Ws{N d j:Nat}{c:MC}{K:QS}{E:ES}{cnt sp:Nat}{log:List (Txt×List (List Txt))}{as:List V}{es cache:List (V×V)}{R:List (Nat×O)}{F H:MH}{a cd n st sl ea r g nn s pc:Nat}{cv:V}{rows:List V}{nt t:Txt}{stk:List Txt}
  (C0:aj F (base c cnt sp log (as++ [.ref a]) es cache++((a,aY cd n pc st sl ea cv)::(st,aZ (stk++ [t]))::R)) H) (hal:as.length≤1000) (hs:stk.length≤1000)
  (hcd:F cd=some (rA r g nn s)) (hr:F r=some (.list rows)) (hpc:rows.length≤pc) (hrl:rows.length≤1000) (hnn:F n=some (gH nt))
  (h:∀H',aj F (base c cnt sp log as es cache++R) H'→rJ N d c K E j t H'):
  cC N d c K E (j+1) H:=by
 rw [kE] at C0
 have p1:=nj (x:=V.ref a) hal
 have p2:=nq (as:=as) (x:=V.ref a)
 have p3:=uN (as:=stk.map V.str) (x:=V.str t)
 have p4:=yQ (as:=stk.map V.str) (x:=V.str t)
 have g2:(rows.length:Int)≤(pc:Int):=j9 hpc
 have q1:(stk.map V.str++ [V.str t]).length≤1001:=aC (cM hs) (lk 1 rfl)
 have C1:aj F (base c cnt sp log (as++ [.ref a]) es cache++((a,aY cd n pc st sl ea cv)::(st,aZ stk)::R)) (H.upd st (.list (stk.map V.str++ [V.str t]).dropLast)):=by
  rw [List.dropLast_concat];exact C0.set 7 _ rfl
 refine I5 C0 hal (kf wL rfl rfl fun C hC=> ?_)
 refine wg (.o (C0.at 0 rfl) (.o (C0.at 2 rfl) (.k p1 (.v p2 (.o (C0.at 6 rfl) (.o (C0.at 6 rfl) (.o (C0.fr _ _ hcd) (.o (C0.fr _ _ hr) (.t (aA hrl rfl) (.t (aL g2) (.o (C0.at 0 rfl) (.o (C0.at 6 rfl) (.o (C0.at 7 rfl) (.t (aA q1 rfl) (.t (aL p3) (.o (C0.at 6 rfl) (.o (C0.at 7 rfl) (.o (C0.at 7 rfl) (.t (aA q1 rfl) (.v p4 .n)))))))))))))))))))) rfl ?_
 exact cu hC (UV (d:=d+10) C1 hal hnn fun H' C'=>h H' (C'.sub (List.Sublist.append_left (List.sublist_cons_self _ _) _)))
inductive Res where
 | ok (t:Txt)
 | flt (f:aK)
structure rM(p:List (Nat×Txt×Nat)):Prop where
 len:p.length=9
 ent:∀e∈p,e.1<8∧gW e.2.1∧e.2.1.length≤10
noncomputable def fK(l i:Nat):Nat:=9+(l - 9)+(9 - l)*8+(8 - i)
theorem zg(l i:Nat):l≤fK l i:=Nat.le_trans (Nat.le_trans (Nat.sub_le_iff_le_add'.1 (Nat.le_refl (l - 9))) (Nat.le_add_right _ _)) (Nat.le_add_right _ _)
theorem iQ{k n:Nat}(h:k≤n):∃m,n=m+k:=⟨n - k,(Nat.sub_add_cancel h).symm⟩
structure dj(p:List (Nat×Txt×Nat))(sh:aN)(i:Nat)(e:Option aK)(s:List Txt)(ss:List (List Txt))(w:Wd):Prop where
 g:bZ sh
 pl:rM p
 hi:i≤sh.items.length
 hs:s.length≤3+3*i
 last:i<sh.items.length∨s≠ []
 hss:ss.length≤9
 hsl:ss.length≤w.log.length
 ph:fK w.log.length i≤100
 he:∀f,e=some f→bO f∧sh.items[i]? =some []
noncomputable def pF(N d:Nat)(c:MC)(K:QS)(E:ES)(F:MH)(as:List V)(T:List (Nat×O))(w':Wd)(j:Nat):Res→Prop
 | .ok t=>∀F' H',Le F F'→yZ c F' H' as T w'→rJ N d c K E j t H'
 | .flt f=>∀F' H' x tl n,Le F F'→as.length+1≤n→Fl c F' H' as T w' f x→iM N d c K E j x n (kJ c.m x tl) H'
theorem pF.mono{N d:Nat}{c:MC}{K:QS}{E:ES}{F F1:MH}{as:List V}{T:List (Nat×O)}{w':Wd}{j:Nat}{r:Res}(h:pF N d c K E F as T w' j r)(k:Le F F1):pF N d c K E F1 as T w' j r:=by
 induction r using Res.casesOn with
 | ok t=>exact fun F' H' le=>h F' H' (k.trans le)
 | flt f=>exact fun F' H' x loc' n le=>h F' H' x loc' n (k.trans le)
noncomputable def gK(p:List (Nat×Txt×Nat))(sh:aN)(i:Nat)(e:Option aK)(s:List Txt)(ss:List (List Txt))(w:Wd)(r:Res)(w':Wd)(k:Nat):Prop:=
 ∀(N d:Nat) (c:MC) (K:QS) (E:ES) (as:List V) (T:List (Nat×O)) (j:Nat) (F H:MH),200000≤N→cW c p F→dh T as ss→At c F H as T sh i e s w→pF N d c K E F as T w' j r→cC N d c K E (j+k) H
noncomputable def pG(p:List (Nat×Txt×Nat))(sh:aN)(i:Nat)(s:List Txt)(ss:List (List Txt))(w:Wd)(f:aK)(r:Res)(w':Wd)(k:Nat):Prop:=
 ∀(N d:Nat) (c:MC) (K:QS) (E:ES) (as:List V) (T:List (Nat×O)) (j:Nat) (F H:MH) (a:Nat) (U:List (Nat×O)) (x n:Nat) (tl:Loc),200000≤N→cW c p F→dh T as ss→ji F sh i s a U→Fl c F H (as++ [.ref a]) (U++T) w f x→
  as.length+2≤n→pF N d c K E F as T w' j r→iM N d c K E (j+k) x n (kJ c.m x tl) H
theorem Jd(b:Bool)(g:aK):(if b then some g else none).isSome=b:=by induction b using Bool.casesOn<;>rfl
theorem rN{b:Bool}{g g':aK}(h:(if b then some g else none)=some g'):b=true∧g=g':=by
 induction b using Bool.casesOn with
 | true=>exact ⟨rfl,Option.some.inj h⟩
 | false=>exact nomatch h
theorem Wt{sh:aN}(g:bZ sh){k:Nat}{code:Int}{r:Rng}(h:dW sh k code=some r)(hj:(cO r code).2=true):r.ca=true:=by
 by_cases h4:r.ca=false∧code=4
 ·unfold cO at hj;rw [if_pos h4] at hj;exact nomatch hj
 ·rw [pC h4] at hj
  exact ((g.rng r (uX h).1).2.2.2.2.1 hj).1
theorem Je{N d j n x i a:Nat}{c:MC}{p:List (Nat×Txt×Nat)}{K:QS}{E:ES}{F H:MH}{as:List V}{T U:List (Nat×O)}{sh:aN}{s:List Txt}{w:Wd}{f:aK}{tl:Loc}(hN:200000≤N)
  (fz:cW c p F) (g:bZ sh) (hm:ji F sh i s a U) (hfl:Fl c F H (as++ [.ref a]) (U++T) w f x) (hi:i<sh.items.length) (hf:bO f) (hf':bO (bT f (bG sh i))) (hal:as.length≤1000) (hs:s.length≤1000)
  (h1:dW sh i f.code=none→∀H' tl,Fl c F H' as T w (bT f (bG sh i)) x→iM N d c K E j x n (kJ c.m x tl) H')
  (h2:∀r,dW sh i f.code=some r→∀F' H',Le F F'→At c F' H' as T sh (cO r f.code).1 (if (cO r f.code).2 then some (bT f (bG sh i)) else none) (s.take r.dep) {w with book:=if r.ca then iJ w.book (bT f (bG sh i)) else w.book}→cC N d c K E j H'):
  iM N d c K E j x (n+1) (kJ c.m x tl) H:=by
 cases hm with | mk cd nn st sl ea cv nt hcd hnn=>
 induction hfl using Fl.casesOn with | mk es vc l ex C hex hbk hca hcl=>
 unfold iM
 refine Wa rfl (d:=d+1) (p:=p) (T:=T) hN hbk fz g hi C hcd hnn hex hf hf' hs hal (fun e H' tl C'=>h1 e H' tl ⟨es,vc,l,ex,C',(rI f _).2.1▸hex,hbk,hca,hcl⟩) fun r e F' H' st' cv' es' vc' loc' le hcv hb' C'=> ?_
 refine h2 r e F' H' le ⟨a,cd,nn,st',sl,ea,cv',nt,es',vc',l, ?_,hcd.mono le,le _ _ hnn,hb',hca.mono le,hcl,fun f1 e1=> ?_⟩
 ·rw [Jd];exact C'
 ·obtain ⟨e2,e3⟩:=rN e1
  exact e3▸hcv (Wt g e e2)
theorem Wu{p:List (Nat×Txt×Nat)}{sh:aN}{i:Nat}{s:List Txt}{ss:List (List Txt)}{w:Wd}{f:aK}(g:bZ sh)(hi:i<sh.items.length)(hf:bO f)(hf':bO (bT f (bG sh i)))(hs:s.length≤1000)(hss:ss.length≤1000)
  (ht:dW sh i f.code=none):pG p sh i s ss w f (.flt (bT f (bG sh i))) w 0:=by
 intro N d c K E as T j F H a U x n loc hN fz ha hm hfl hn post
 obtain ⟨n,rfl⟩:=iQ (Nat.le_trans (Nat.le_add_left 1 _) hn)
 exact Je hN fz g hm hfl hi hf hf' (ha.len▸hss) hs (fun zz H' tl hfl'=>post F H' x tl n (Le.refl _) (Nat.le_of_succ_le_succ hn) hfl') fun r e=>nomatch ht.symm.trans e
theorem Wv{p:List (Nat×Txt×Nat)}{sh:aN}{i k:Nat}{s:List Txt}{ss:List (List Txt)}{w w':Wd}{f:aK}{r:Rng}{res:Res}(g:bZ sh)(hi:i<sh.items.length)(hf:bO f)(hf':bO (bT f (bG sh i)))(hs:s.length≤1000)(hss:ss.length≤1000)
  (ht:dW sh i f.code=some r)
  (h:gK p sh (cO r f.code).1 (if (cO r f.code).2 then some (bT f (bG sh i)) else none) (s.take r.dep) ss {w with book:=if r.ca then iJ w.book (bT f (bG sh i)) else w.book} res w' k):pG p sh i s ss w f res w' k:=by
 intro N d c K E as T j F H a U x n loc hN fz ha hm hfl hn post
 obtain ⟨n,rfl⟩:=iQ (Nat.le_trans (Nat.le_add_left 1 _) hn)
 refine Je hN fz g hm hfl hi hf hf' (ha.len▸hss) hs (fun e=>nomatch ht.symm.trans e) fun r' e F' H' le hat=> ?_
 obtain rfl:=Option.some.inj (ht.symm.trans e)
 exact h N d c K E as T j F' H' hN (fz.mono le) ha hat (post.mono le)
theorem dj.nums{p:List (Nat×Txt×Nat)}{sh:aN}{i:Nat}{e:Option aK}{s:List Txt}{ss:List (List Txt)}{w:Wd}(iv:dj p sh i e s ss w):i≤7∧s.length≤24∧ss.length≤9∧w.log.length≤100∧p.length=9∧(∀e∈p,e.1<8):=
 have hi:=Nat.le_trans iv.hi iv.g.n7
 ⟨hi,Nat.le_trans iv.hs (Nat.add_le_add_left (Nat.mul_le_mul_left 3 hi) 3),iv.hss,Nat.le_trans (zg _ _) iv.ph,iv.pl.len,fun e m=>(iv.pl.ent e m).1⟩
theorem Ww{p:List (Nat×Txt×Nat)}{sh:aN}{s:List Txt}{ss:List (List Txt)}{w:Wd}{t:Txt}{e:Option aK}(iv:dj p sh sh.items.length e (s++ [t]) ss w):gK p sh sh.items.length e (s++ [t]) ss w (.ok t) w 1:=by
 intro N d c K E as T j F H hN fz ha hat post
 have hs:=iv.nums.2.1
 rw [List.length_append] at hs
 induction hat using At.casesOn with | mk a cd n st sl ea cv nt es vc l C hcd hnn hbk hca hcl hcv=>
 induction hcd using dz.casesOn with | mk r rg nl so q1 q2 _ _ _=>
 exact Ws (R:=T++vc) C (ha.len▸Nat.le_trans iv.hss (aQ rfl)) (Nat.le_trans (Nat.le_add_right _ _) (Nat.le_trans hs (aQ rfl))) q1 q2 (by rw [I7];exact Nat.le_add_right _ _) (I8 iv.g) hnn fun H' C'=>post F H' (Le.refl _) ⟨es,vc,l,C',hbk,hca,hcl⟩
theorem Wx{p:List (Nat×Txt×Nat)}{sh:aN}{i k:Nat}{e:Option aK}{s:List Txt}{ss:List (List Txt)}{w w':Wd}{r:Res}(iv:dj p sh i e s ss w)(hi:sh.items[i]? =some [])
  (h:gK p sh (i+1) none (s++nD e) ss {w with cnt:=w.cnt+lV e} r w' k):gK p sh i e s ss w r w' (k+lV e):=by
 intro N d c K E as T j F H hN fz ha hat post
 rw [←Nat.add_assoc]
 exact Wr (k:=j+k) hN fz iv.g hat hi iv.nums.2.1 (ha.len▸Nat.le_trans iv.hss (aQ rfl)) (fun f e=>(iv.he f e).1) fun H' hat'=>h N d c K E as T j F H' hN fz ha hat' post
theorem ji.acts{F:MH}{sh:aN}{i a:Nat}{s:List Txt}{U T:List (Nat×O)}{as:List V}{ss:List (List Txt)}(h:ji F sh i s a U)(ha:dh T as ss)(hs:s.length≤1000):dh (U++T) (as++ [.ref a]) (ss++ [s]):=by
 cases h with | mk cd n st sl ea cv nt h2 h3=>
 exact (ha.mono (fun q m=>List.mem_append_right _ m)).snoc (List.mem_append_left _ List.mem_cons_self) (List.mem_append_left _ (List.mem_cons_of_mem _ List.mem_cons_self)) hs
noncomputable def Jf(p:List (Nat×Txt×Nat))(sh:aN)(i:Nat)(s:List Txt)(ss:List (List Txt))(w2:Wd)(r:Res)(w':Wd)(k:Nat)(r1:Res):Prop:=match r1 with
 | .ok t=>gK p sh (i+1) none (s++ [t]) ss w2 r w' k
 | .flt f=>pG p sh i s ss w2 f r w' k
theorem zj{p:List (Nat×Txt×Nat)}{sh:aN}{i k:Nat}{s:List Txt}{ss:List (List Txt)}{w w':Wd}{r:Res}{nm:Txt}(iv:dj p sh i none s ss w)(hi:sh.items[i]? =some nm)(hnm:nm≠ [])
  (hv:∀t,bM p w.log.length= .val t→gK p sh (i+1) none (s++ [t]) ss (di w nm (ss++ [s])) r w' k)
  (hf:∀f,bM p w.log.length= .flt f→pG p sh i s ss (di w nm (ss++ [s])) f r w' k)
  (hn:∀m,bM p w.log.length= .nest m→∃r1 w2 k1 k2,k=k2+k1∧gK p (dU m) 0 none [] (ss++ [s]) (di w nm (ss++ [s])) r1 w2 k1∧Jf p sh i s ss w2 r w' k2 r1):gK p sh i none s ss w r w' (k+3):=by
 intro N d c K E as T j F H hN fz ha hat post
 obtain ⟨n1,n2,n3,n4,n5,n6⟩:=iv.nums
 have hal:as.length≤9:=ha.len▸n3
 have hs:s.length≤1000:=Nat.le_trans n2 (aQ rfl)
 have nN:as.length+2≤N:=Nat.le_trans (Nat.add_le_add_right hal 2) (Nat.le_trans (aQ rfl) hN)
 refine Wq (k:=j+k) fz ha iv.g hat hi hnm n2 hal n4 n5 n6 (fun t ht F' H' le hat'=>hv t ht N d c K E as T j F' H' hN (fz.mono le) ha hat' (post.mono le)) ?_ fun f hf' F' H' a U x le hm hfl=>hf f hf' N d c K E as T j F' H' a U x N [] hN (fz.mono le) ha hm hfl nN (post.mono le)
 intro m hm hm4 F' H' a U le hmid hat'
 obtain ⟨r1,w2,k1,k2,rfl,a1,a2⟩:=hn m hm
 rw [←Nat.add_assoc]
 refine a1 N d c K E (as++ [.ref a]) (U++T) (j+k2) F' H' hN (fz.mono le) (hmid.acts ha hs) hat' ?_
 induction r1 using Res.casesOn with
 | ok t=>exact fun F2 H2 le2 hdone=>Wh (hmid.mono le2) hdone (Nat.le_trans hal (aQ rfl)) hs hi hnm fun H3 hat3=>a2 N d c K E as T j F2 H3 hN (fz.mono (le.trans le2)) ha hat3 (post.mono (le.trans le2))
 | flt f=>exact fun F2 H2 x tl n le2 hn hfl=>a2 N d c K E as T j F2 H2 a U x n tl hN (fz.mono (le.trans le2)) ha (hmid.mono le2) hfl (by rw [List.length_append] at hn;exact hn) (post.mono (le.trans le2))
theorem Wy{p:List (Nat×Txt×Nat)}{sh:aN}{i k:Nat}{s:List Txt}{ss:List (List Txt)}{w w':Wd}{r:Res}{nm t:Txt}(iv:dj p sh i none s ss w)(hi:sh.items[i]? =some nm)(hnm:nm≠ [])(hc:bM p w.log.length= .val t)
  (h:gK p sh (i+1) none (s++ [t]) ss (di w nm (ss++ [s])) r w' k):gK p sh i none s ss w r w' (k+3):=
 zj iv hi hnm (fun t' e=>by (injection (hc.symm.trans e) with zh;subst zh);exact h) (fun f e=>nomatch hc.symm.trans e) fun m e=>nomatch hc.symm.trans e
theorem Wz{p:List (Nat×Txt×Nat)}{sh:aN}{i k:Nat}{s:List Txt}{ss:List (List Txt)}{w w':Wd}{r:Res}{nm:Txt}{f:aK}(iv:dj p sh i none s ss w)(hi:sh.items[i]? =some nm)(hnm:nm≠ [])(hc:bM p w.log.length= .flt f)
  (h:pG p sh i s ss (di w nm (ss++ [s])) f r w' k):gK p sh i none s ss w r w' (k+3):=
 zj iv hi hnm (fun t e=>nomatch hc.symm.trans e) (fun f' e=>by (injection (hc.symm.trans e) with zh;subst zh);exact h) fun m e=>nomatch hc.symm.trans e
theorem Jg{p:List (Nat×Txt×Nat)}{sh:aN}{i m k1 k2:Nat}{s:List Txt}{ss:List (List Txt)}{w w2 w':Wd}{r r1:Res}{nm:Txt}(iv:dj p sh i none s ss w)(hi:sh.items[i]? =some nm)(hnm:nm≠ [])(hc:bM p w.log.length= .nest m)
  (h1:gK p (dU m) 0 none [] (ss++ [s]) (di w nm (ss++ [s])) r1 w2 k1) (h2:Jf p sh i s ss w2 r w' k2 r1):gK p sh i none s ss w r w' (k2+k1+3):=
 zj iv hi hnm (fun t e=>nomatch hc.symm.trans e) (fun f e=>nomatch hc.symm.trans e) fun m' e=>by (injection (hc.symm.trans e) with zh;subst zh);exact ⟨r1,w2,k1,k2,rfl,h1,h2⟩
structure LC where
 L:Nat
 P:Nat
 B:Nat
 cn:Nat
noncomputable def LC.wd(lc:LC):V:= .tup [.ref lc.L, .ref lc.P, .ref lc.B, .ref lc.cn]
noncomputable def gM:Option (Txt×Txt)→List (V×V)
 | none=> []
 | some (i,e)=> [(.str EI, .str i),(.str EC, .str e)]
noncomputable def dX(lc:LC)(w:Wd):List (Nat×O):= [(lc.L, .list (w.log.map bR)),(lc.B, .dict (gM w.book)),(lc.cn, .list [.int w.cnt])]
theorem WD{N d:Nat}{hd:Option Nat}{r:Rng}{i:Nat}{code:Int}{H:MH}{Q:Q1}{E:E1}(hQ:Q (.bool (dB i code r)) H):
  au tab N (d+1) hd (.con (.ref 954)) [bH r, .int (i:Nat), .int code] H Q E:=by
 refine k0 Dc rfl rfl fun C hC=> ?_
 have res:∀b:Bool,b=dB i code r→Q (.bool b) H:=fun b e=>e▸hQ
 have ek:(iH r.ca== [99,97,116,99,104])=r.ca:=by induction r.ca using Bool.casesOn<;>rfl
 by_cases c1:r.lo≤i
 ·have a1:(r.lo:Int)≤(i:Int):=j9 c1
  by_cases c2:i≤r.hi
  ·have a2:(i:Int)≤(r.hi:Int):=j9 c2
   rw [IV c1 c2] at res
   induction hca:r.ca using Bool.casesOn with
   | true=>
    have e2:=ek.trans hca
    refine wg (.t (aL a1) (.f (bY (aL a2)) (.t e2 .n))) rfl ?_
    exact res _ (e2.trans (by rw [hca];rfl))
   | false=>
    have e2:=ek.trans hca
    by_cases c3:code=3
    ·refine wg (.t (aL a1) (.f (bY (aL a2)) (.f e2 (.t (aR c3) .n)))) rfl ?_
     exact res _ (by rw [hca,aR c3];rfl)
    ·by_cases c4:code=4
     ·induction hct:r.ct using Option.casesOn with
      | none=>
       have e3:isNone (kI r.ct)=true:=by rw [hct];rfl
       refine wg (.t (aL a1) (.f (bY (aL a2)) (.f e2 (.f (aM c3) (.t (aR c4) .n))))) rfl ?_
       exact res _ (by rw [hca,aM c3,aR c4,e3,hct];rfl)
      | some t=>
       have e3:isNone (kI r.ct)=false:=by rw [hct];rfl
       refine wg (.t (aL a1) (.f (bY (aL a2)) (.f e2 (.f (aM c3) (.t (aR c4) .n))))) rfl ?_
       exact res _ (by rw [hca,aM c3,aR c4,e3,hct];rfl)
     ·refine wg (.t (aL a1) (.f (bY (aL a2)) (.f e2 (.f (aM c3) (.f (aM c4) .n))))) rfl ?_
      exact res _ (by rw [hca,aM c3,aM c4];rfl)
  ·have a2: ¬(i:Int)≤(r.hi:Int):=gF c2
   rw [IK c2] at hQ
   refine wg (.t (aL a1) (.t (j8 (bc a2)) .n)) rfl ?_
   exact hQ
 ·have a1: ¬(r.lo:Int)≤(i:Int):=gF c1
  rw [Iz c1] at hQ
  refine wg (.f (bc a1) .n) rfl ?_
  exact hQ
theorem WF{N d:Nat}{C:aO}(hC:C=au tab N (d+1)){hd:Option Nat}{src:MH→Prop}{loc:Loc}{H:MH}{z i:Nat}{f:aK}{x:Nat}{Q:List V→MH→Prop}(hs:src H)(hz:H z=some (d8 f x))(l1:cR loc "at"=some (.int (i:Nat)))(l2:cR loc "fault"=some (.ref z)):
  ∀(rs:List Rng) (acc:List V),Q (acc++(rs.filter (dB i f.code)).map bH) H→
   iw C hd (.loc "held") "held" [(.call (.k (.con (.ref 954))) [(.loc "held"),(.loc "at"),(.sub (.loc "fault") (.k (.int 0)))])] src loc (rs.map bH) acc H Q:=by
 intro rs
 induction rs with
 | nil=>exact fun acc hQ=>uv hs (List.append_nil acc▸hQ)
 | cons r rs ih=>
  intro acc hQ
  refine oZ hC hs ?_
  have m0:=aP (l:=loc) (x:="held") (v:=bH r)
  have m1:=aD (v:=bH r) (show ("held"=="at")=false from rfl) l1
  have m2:=aD (v:=bH r) (show ("held"=="fault")=false from rfl) l2
  refine wg (.v m0 (.v m1 (.v m2 (.o hz .n)))) rfl ?_
  refine cu hC (WD ?_)
  induction e:dB i f.code r using Bool.casesOn with
  | true=>
   rw [List.filter_cons_of_pos e] at hQ
   refine wg (.v m0 .n) rfl ?_
   exact ih _ (by rw [List.append_assoc];exact hQ)
  | false=>
   rw [List.filter_cons_of_neg (by rw [e];exact Bool.false_ne_true)] at hQ
   refine wg .n rfl ?_
   exact ih _ hQ
theorem WK{N d:Nat}{hd:Option Nat}{n:Nat}{k:Int}{H:MH}{Q:Q1}{E:E1}(hk:k=(n:Nat))(hn:n<4)
  (hQ:∀v H',Le H H'→jh (bf H H') v (dU n)→Q v H'):au tab N (d+1) hd (.con (.ref 860)) [.int k] H Q E:=by subst hk;exact Ie hn hQ
theorem WL{N d:Nat}{hd:Option Nat}{lc:LC}{p:List (Nat×Txt×Nat)}{w:Wd}{F H:MH}{Q:Q1}{E:E1}{nm:Txt}{stacks:List (List Txt)}
  (hP:F lc.P=some (.list (p.map cN))) (C0:aj F (dX lc w) H) (hl:w.log.length≤1000) (hp:p.length≤1000) (hpk:∀e∈p,e.1<8)
  (hv:∀t,bM p w.log.length= .val t→∀F' H' z rest,Le F F'→aj F' (dX lc {w with log:=w.log++ [(nm,stacks)]}) H'→F' z=some (.list (.int 0:: .str t::rest))→rest.length≤6→Q (.ref z) H')
  (hn:∀m,bM p w.log.length= .nest m→m<4→∀F' H' v,Le F F'→aj F' (dX lc {w with log:=w.log++ [(nm,stacks)]}) H'→jh F' v (dU m)→
   au tab N (d+3) hd (.con (.ref 959)) [lc.wd,v, .tup (stacks.map fun s=> .tup (s.map V.str))] H' Q E)
  (hf:∀f,bM p w.log.length= .flt f→∀F' H' z x,Le F F'→aj F' ((z,d8 f x)::dX lc {w with log:=w.log++ [(nm,stacks)]}) H'→F' x=some (cB f.ex)→Q (.ref z) H'):
  au tab N (d+4) hd (.con (.ref 947)) [lc.wd, .str nm, .tup (stacks.map fun s=> .tup (s.map V.str))] H Q E:=by
 refine kf CZ rfl rfl fun C hC=> ?_
 have hL:(w.log.map bR).length≤1000:=by rw [List.length_map];exact hl
 have hpl:(p.map cN).length≤1000:=by rw [List.length_map];exact hp
 have C1:aj F (dX lc {w with log:=w.log++ [(nm,stacks)]}) (H.upd lc.L (.list (w.log.map bR++ [bR (nm,stacks)]))):=by
  rw [show w.log.map bR++ [bR (nm,stacks)]=(w.log++ [(nm,stacks)]).map bR from (List.map_append (l₂:= [(nm,stacks)])).symm]
  exact C0.set 0 _ rfl
 have el:∀x:V,(w.log.map bR++ [x]).length=w.log.length+1:=fun x=>by rw [List.length_append,List.length_map];rfl
 have ep:(p.map cN).length=p.length:=List.length_map _
 induction hg:p[w.log.length]? using Option.casesOn with
 | none=>
  have g:∀x:V,((p.map cN).length:Int)<((w.log.map bR++ [x]).length:Int):=fun x=>by rw [el,ep];exact fZ (Nat.lt_succ_of_le (List.getElem?_eq_none_iff.1 hg))
  refine wg (.o (C0.at 0 rfl) (.o (C0.at 0 rfl) (.t (cU hL rfl) (.o aq (.t (aA (aC hL (lk 1 rfl)) rfl) (.o (C0.set0.fr _ _ hP) (.t (aA hpl rfl) (.t (aL (g _)) .n)))))))) rfl ?_
  intro z hz
  have C2:=C1.newF (.list [.int 0, .str [111,118,101,114]]) hz
  exact hv _ (rE hg) _ _ z [] C2.2 C2.1 (cF _ _ _) (Nat.zero_le _)
 | some e=>
  obtain ⟨k,v,m⟩:=e
  have hlt:=(List.getElem?_eq_some_iff.1 hg).1
  have g:∀x:V,¬((p.map cN).length:Int)<((w.log.map bR++ [x]).length:Int):=fun x=>by rw [el,ep];exact iC (Nat.not_lt_of_le hlt)
  have g1:∀x:V,cP (p.map cN).length (((w.log.map bR++ [x]).length:Int) - 1)=some w.log.length:=fun x=>by rw [el,show ((w.log.length+1:Nat):Int) - 1=(w.log.length:Nat) from Int.add_sub_cancel (w.log.length:Int) 1];exact pl (aA hpl rfl)
  have g2:(p.map cN)[w.log.length]? =some (.tup [.int k, .str v, .int m]):=by rw [List.getElem?_map,hg];rfl
  have hk:k<8:=hpk _ (List.mem_of_getElem? hg)
  by_cases k6:k=6
  ·subst k6
   have m4:m % 4<4:=Nat.mod_lt _ (Nat.zero_lt_succ 3)
   refine wg (.o (C0.at 0 rfl) (.o (C0.at 0 rfl) (.t (cU hL rfl) (.o aq (.t (aA (aC hL (lk 1 rfl)) rfl) (.o (C0.set0.fr _ _ hP) (.t (aA hpl rfl) (.f (bc (g _)) (.o aq (.t (aA (aC hL (lk 1 rfl)) rfl) (.o (C0.set0.fr _ _ hP) (.k (g1 _) (.v g2 .n))))))))))))) rfl ?_
   refine cu hC (WK (o9 m 4) m4 ?_)
   intro v' H2 le2 hs
   have C2:=C1.frzAll le2
   refine wg .n rfl ?_
   exact cu hC (hn (m % 4) (uR hg) m4 _ H2 v' C2.2.1 C2.1 (hs.mono C2.2.2))
  ·have e6: ¬(k:Int)=6:=fun e=>k6 (Int.ofNat.inj e)
   refine wg (.o (C0.at 0 rfl) (.o (C0.at 0 rfl) (.t (cU hL rfl) (.o aq (.t (aA (aC hL (lk 1 rfl)) rfl) (.o (C0.set0.fr _ _ hP) (.t (aA hpl rfl) (.f (bc (g _)) (.o aq (.t (aA (aC hL (lk 1 rfl)) rfl) (.o (C0.set0.fr _ _ hP) (.k (g1 _) (.v g2 (.f (aM e6) .n)))))))))))))) rfl ?_
   refine cu hC (HH hk ?_)
   intro z x H2 hz hx hzx le2 hz2 hx2
   by_cases c0:iG k m=0
   ·have C2:=C1.frzAll le2
    have hc:(dR k v m).code=0:=c0
    refine hv v (uT hg k6 c0) _ H2 z [je (dR k v m).ec, .int (dR k v m).lvl, .int (dR k v m).ret, .str (dR k v m).info, .ref x, .bool (dR k v m).noted] C2.2.1 C2.1 (C2.2.2 _ _ (bf.mk hz ?_)) (Nat.le_refl _)
    rw [hz2];unfold d8;rw [hc];rfl
   ·have C2:=(C1.new2 le2 hx hz hzx hx2 hz2).frz
    exact hf (dR k v m) (uU hg k6 c0) _ H2 z x C2.2 C2.1 (cF _ _ _)
noncomputable def Jh:X:= .cmp (.loc "at") .lt (.call (.k (.con (.builtin "len"))) [(.loc "items")])
noncomputable def zm:List St:=match (tC.body.drop 4:List St) with
 | .loop _ b::_=>b
 | _=> []
noncomputable def Ji:List St:=tC.body.drop 5
noncomputable def zp(C:aO)(N:Nat)(hd:Option Nat)(Q:Q1)(E:E1):QS:=fun fl l h=>(match fl with
 | .next=>bA C true N hd Ji l h (cz Q) (cJ E)
 | .cont=>cz Q .cont l h
 | .ret v=>cz Q (.ret v) l h).P
noncomputable def jj(C:aO)(N:Nat)(hd:Option Nat)(Q:Q1)(E:E1)(n:Nat)(loc:Loc)(H:MH):Prop:=eO C N hd Jh zm (iU E) n loc H (zp C N hd Q E)
noncomputable def kO(C:aO)(N:Nat)(hd:Option Nat)(Q:Q1)(E:E1)(n k:Nat)(loc:Loc)(H:MH):Prop:=
 (bA C true N hd (zm.drop k) loc H (m7 (fun l h=>eO C N hd Jh zm (iU E) n l h (zp C N hd Q E)) (zp C N hd Q E)) (fun x l h=>dw (iU E x l h))).P
structure fM where
 lc:LC
 sv:V
 it:Nat
 rg:Nat
 ow:Nat
 sh:aN
 ss:List (List Txt)
noncomputable def u9(ss:List (List Txt)):V:= .tup (ss.map fun s=> .tup (s.map V.str))
noncomputable def fM.loc(f:fM)(st:Nat)(cau:V)(i:Nat)(b:Bool)(tl:Loc):Loc:=
 ("world",f.lc.wd)::("shape",f.sv)::("above",u9 f.ss)::("items", .ref f.it)::("ranges", .ref f.rg)::("owned", .ref f.ow)::("upto", .int (f.sh.upto:Nat))::("main", .str f.sh.main)::("stack", .ref st)::("caught",cau)::("at", .int (i:Nat))::("is_entry", .bool b)::tl
structure rO(f:fM)(F:MH):Prop where
 fi:F f.it=some (.list (f.sh.items.map V.str))
 fr:F f.rg=some (.list (f.sh.ranges.map bH))
 fo:F f.ow=some (.list (f.sh.owned.map V.bool))
theorem rO.mono{f:fM}{F F':MH}(h:rO f F)(k:Le F F'):rO f F':=⟨k _ _ h.fi,k _ _ h.fr,k _ _ h.fo⟩
structure kW(f:fM)(F H:MH)(st:Nat)(cau:V)(e:Option aK)(s:List Txt)(w:Wd):Prop where
 b:rO f F
 stk:F st=some (aZ s)
 cau:∀g,e=some g→∃z x,cau= .ref z∧F z=some (d8 g x)∧F x=some (cB g.ex)
 C:aj F (dX f.lc w) H
noncomputable def pH(lc:LC)(F:MH)(Q:Q1)(w':Wd)(r:Res):Prop:=match r with
 | .ok t=>∀F' H' z rest,Le F F'→aj F' (dX lc w') H'→F' z=some (.list (.int 0:: .str t::rest))→rest.length≤6→Q (.ref z) H'
 | .flt f=>∀F' H' z x,Le F F'→aj F' ((z,d8 f x)::dX lc w') H'→F' x=some (cB f.ex)→Q (.ref z) H'
theorem pH.mono{lc:LC}{F F1:MH}{Q:Q1}{w':Wd}{r:Res}(h:pH lc F Q w' r)(k:Le F F1):pH lc F1 Q w' r:=by
 induction r using Res.casesOn with
 | ok t=>exact fun F' H' z rest le=>h F' H' z rest (k.trans le)
 | flt f=>exact fun F' H' z x le=>h F' H' z x (k.trans le)
theorem WM{N D n:Nat}{C:aO}(hC:C=au tab N (D+1)){hd:Option Nat}{Q:Q1}{E:E1}{f:fM}{F H:MH}{st:Nat}{cau:V}{e:Option aK}{s:List Txt}{t:Txt}{w:Wd}{b:Bool}{tl:Loc}(h7:f.sh.items.length≤7)(hs:s.length≤900)
  (h:kW f F H st cau e (s++ [t]) w) (post:pH f.lc F Q w (.ok t)):jj C N hd Q E (n+1) (f.loc st cau f.sh.items.length b tl) H:=by
 have fi:=h.b.fi
 have C0:=h.C
 have fs:=h.stk
 rw [kE] at fs
 have p1:=nj (x:=V.str t) (Nat.le_trans (cM hs) (aQ rfl))
 have p2:=nq (as:=s.map V.str) (x:=V.str t)
 have g7:=cM h7
 have g1: ¬(f.sh.items.length:Int)<((f.sh.items.map V.str).length:Int):=by rw [List.length_map];exact iC (Nat.lt_irrefl _)
 refine kl hC ?_
 refine wg (.o (C0.fr _ _ fi) (.t (aA g7 rfl) (.f (bc g1) .n))) rfl ?_
 show (bA C true N hd Ji (f.loc st cau f.sh.items.length b tl) H (cz Q) (cJ E)).P
 refine wg (.o (C0.fr _ _ fs) (.k p1 (.v p2 .n))) rfl ?_
 intro z hz
 have C1:=C0.newF (.list [.int 0, .str t]) hz
 exact post _ _ z [] C1.2 C1.1 (cF _ _ _) (Nat.zero_le _)
theorem Jj(s:List Txt)(a b c:Txt):O.list (s.map V.str++ [V.str a,V.str b]++ [V.str c])=aZ (s++ [a,b,c]):=congrArg O.list ((List.append_assoc _ _ _).trans (ru (b:= [a,b,c]) rfl))
theorem WN{N D n i:Nat}{C:aO}(hC:C=au tab N (D+4)){hd:Option Nat}{Q:Q1}{E:E1}{f:fM}{F H:MH}{st:Nat}{cau:V}{e:Option aK}{s:List Txt}{w:Wd}{tl:Loc}(h7:f.sh.items.length≤7)(hs:s.length≤900)(hi:f.sh.items[i]? =some [])(hfe:∀g,e=some g→bO g)
  (h:kW f F H st cau e s w)
  (next:∀F' H' st' cau' tl',Le F F'→kW f F' H' st' cau' none (s++nD e) {w with cnt:=w.cnt+lV e}→jj C N hd Q E n (f.loc st' cau' (i+1) false tl') H'):jj C N hd Q E (n+1) (f.loc st cau i e.isSome tl) H:=by
 have fi:=h.b.fi
 have C0:=h.C
 have fs:=h.stk
 have g7:=cM h7
 have gs:=cM hs
 have hil:=(List.getElem?_eq_some_iff.1 hi).1
 have g1:(i:Int)<((f.sh.items.map V.str).length:Int):=by rw [List.length_map];exact fZ hil
 have g2:(f.sh.items.map V.str)[i]? =some (.str []):=by rw [List.getElem?_map,hi];rfl
 have fin:∀(H':MH) (z:Nat) (o:O) (cau':V) (tl':Loc),H' z=none→aj F (dX f.lc {w with cnt:=w.cnt+lV e}) H'→o=aZ (s++nD e)→jj C N hd Q E n (f.loc z cau' (i+1) false tl') (H'.upd z o):=fun H' z o cau' tl' hz C1 eo=>by
  have C2:=C1.newF o hz
  exact next _ _ z _ _ C2.2 ⟨h.b.mono C2.2,(cF _ _ _).trans (congrArg some eo),fun zz k=>(nomatch k),C2.1⟩
 induction e using Option.casesOn with
 | none=>
  refine kl hC ?_
  refine wg (.o (C0.fr _ _ fi) (.t (aA g7 rfl) (.t (aL g1) (.o (C0.fr _ _ fi) (.k (pl (aA g7 rfl)) (.v g2 (.o (C0.at 2 rfl) (.o (C0.at 2 rfl) .n)))))))) rfl ?_
  intro z1 hz1
  have C1:=(C0.set 2 (.list [.int ((w.cnt+5:Nat):Int)]) rfl).le (Le.new (.list [.str [48], .str [102,105,110,101]]) hz1)
  refine wg (.o (((C0.set 2 _ rfl).new _ hz1).fr _ _ fs) (.o aq (.t (aA (aC gs (lk 2 rfl)) rfl) .n))) rfl ?_
  intro z2 hz2
  refine wg .n rfl ?_
  refine cu hC (Uo ?_)
  refine wg .n rfl ?_
  intro z3 hz3
  refine wg (.o (((((C0.set 2 _ rfl).new _ hz1).new _ hz2).new _ hz3).at 1 rfl) (.o aq (.t (aA (aC (aC gs (lk 2 rfl)) (lk 1 rfl)) rfl) .n))) rfl ?_
  intro z4 hz4
  refine wg .n rfl ?_
  exact fin _ z4 _ _ _ hz4 ((C1.le (Le.new _ hz2)).le (Le.new _ hz3)) (Jj _ _ _ _)
 | some g=>
  obtain ⟨zc,xc,rfl,hzc,hxc⟩:=h.cau g rfl
  have hf:=hfe g rfl
  have hc:=hf.code.plain.2.2
  refine kl hC ?_
  refine wg (.o (C0.fr _ _ fi) (.t (aA g7 rfl) (.t (aL g1) (.o (C0.fr _ _ fi) (.k (pl (aA g7 rfl)) (.v g2 (.o (C0.at 2 rfl) (.o (C0.at 2 rfl) (.o ((C0.set 2 _ rfl).fr _ _ hzc) (.t (aL hc) (.o ((C0.set 2 _ rfl).fr _ _ hzc) .n))))))))))) rfl ?_
  intro z1 hz1
  have C1:=(C0.set 2 (.list [.int ((w.cnt+3:Nat):Int)]) rfl).le (Le.new (.list [.str (eF g.code), .str g.val]) hz1)
  refine wg (.o (((C0.set 2 _ rfl).new _ hz1).fr _ _ fs) (.o aq (.t (aA (aC gs (lk 2 rfl)) rfl) .n))) rfl ?_
  intro z2 hz2
  refine wg .n rfl ?_
  refine cu hC (Un ((C1.fr.trans (Le.new _ hz2)) _ _ hzc) ((C1.fr.trans (Le.new _ hz2)) _ _ hxc) hf ?_)
  intro H3 le3
  have C3:=(C1.le (Le.new _ hz2)).le le3
  refine wg .n rfl ?_
  intro z3 hz3
  refine wg (.o (bx hz3 (le3 _ _ aq)) (.o aq (.t (aA (aC (aC gs (lk 2 rfl)) (lk 1 rfl)) rfl) .n))) rfl ?_
  intro z4 hz4
  refine wg .n rfl ?_
  exact fin _ z4 _ _ _ hz4 (C3.le (Le.new _ hz3)) (Jj _ _ _ _)
structure lW(f:fM)(F:MH)(st:Nat)(s:List Txt):Prop where
 b:rO f F
 stk:F st=some (aZ s)
theorem lW.mono{f:fM}{F F':MH}{st:Nat}{s:List Txt}(h:lW f F st s)(k:Le F F'):lW f F' st s:=⟨h.b.mono k,k _ _ h.stk⟩
theorem WP(ss:List (List Txt))(s:List Txt):u9 (ss++ [s])= .tup (ss.map (fun s=>V.tup (s.map V.str))++ [.tup (s.map V.str)]):=congrArg V.tup List.map_append
theorem WQ{N D n i:Nat}{C:aO}(hC:C=au tab N (D+1)){hd:Option Nat}{Q:Q1}{E:E1}{f:fM}{F H:MH}{st:Nat}{cau:V}{nm:Txt}{s:List Txt}{w:Wd}{tl:Loc}(h7:f.sh.items.length≤7)(hs:s.length≤900)(hss:f.ss.length≤900)(hi:f.sh.items[i]? =some nm)(hnm:nm≠ [])
  (h:kW f F H st cau none s w)
  (next:∀H',aj F (dX f.lc {w with cnt:=w.cnt+3}) H'→C hd (.con (.ref 947)) [f.lc.wd, .str nm,u9 (f.ss++ [s])] H' (fun v H''=>kO C N hd Q E n 3 (f.loc st cau i false (bu tl "fault" v)) H'') E):jj C N hd Q E (n+1) (f.loc st cau i false tl) H:=by
 have fi:=h.b.fi
 have C0:=h.C
 have fs:=h.stk
 have g7:=cM h7
 have gs:=cM hs
 have gss:(f.ss.map fun s=>V.tup (s.map V.str)).length≤900:=by rw [List.length_map];exact hss
 have hil:=(List.getElem?_eq_some_iff.1 hi).1
 have g1:(i:Int)<((f.sh.items.map V.str).length:Int):=by rw [List.length_map];exact fZ hil
 have g2:(f.sh.items.map V.str)[i]? =some (.str nm):=by rw [List.getElem?_map,hi];rfl
 have g3: ¬nm= []:=hnm
 have C1:aj F (dX f.lc {w with cnt:=w.cnt+3}) (H.upd f.lc.cn (.list [.int ((w.cnt+3:Nat):Int)])):=C0.set 2 _ rfl
 have nx:=next _ C1
 rw [WP] at nx
 refine kl hC ?_
 refine wg (.o (C0.fr _ _ fi) (.t (aA g7 rfl) (.t (aL g1) (.o (C0.fr _ _ fi) (.k (pl (aA g7 rfl)) (.v g2 (.f (aM g3) (.o (C0.at 2 rfl) (.o (C0.at 2 rfl) (.o ((C0.set 2 _ rfl).fr _ _ fi) (.k (pl (aA g7 rfl)) (.v g2 (.p rfl (.o ((C0.set 2 _ rfl).fr _ _ fs) (.t (aA gs rfl) (.t (aA (aC gss (lk 1 rfl)) rfl) .n)))))))))))))))) rfl ?_
 exact nx
theorem Jk{N D n i z:Nat}{C:aO}(hC:C=au tab N (D+1)){hd:Option Nat}{Q:Q1}{E:E1}{f:fM}{F H:MH}{st:Nat}{cau:V}{s:List Txt}{t:Txt}{rest:List V}{w:Wd}{tl:Loc}(hs:s.length≤900)
  (hm:lW f F st s) (C0:aj F (dX f.lc w) H) (hz:F z=some (.list (.int 0:: .str t::rest))) (hr:rest.length≤6)
  (next:∀F' H' st' cau' tl',Le F F'→kW f F' H' st' cau' none (s++ [t]) w→jj C N hd Q E n (f.loc st' cau' (i+1) false tl') H'):
  kO C N hd Q E n 3 (f.loc st cau i false (bu tl "fault" (.ref z))) H:=by
 have fs:=hm.stk
 have gs:=cM hs
 have gr:(V.int 0::V.str t::rest).length≤8:=Nat.succ_le_succ (Nat.succ_le_succ hr)
 unfold kO
 refine wg (.v aP (.o (C0.fr _ _ hz) (.k (pl (aA gr rfl)) (.v rfl (.v rfl (.v aP (.o (C0.fr _ _ hz) (.k (pl (aA gr rfl)) .n)))))))) rfl ?_
 intro z1 hz1
 refine wg (.o ((C0.new _ hz1).fr _ _ fs) (.o aq (.t (aA (aC gs (lk 1 rfl)) rfl) .n))) rfl ?_
 intro z2 hz2
 have C2:=(C0.le (Le.new (.list [.str t]) hz1)).newF (.list (s.map V.str++ [.str t])) hz2
 refine wg .n rfl ?_
 exact next _ _ z2 _ _ C2.2 ⟨hm.b.mono C2.2,(cF _ _ _).trans (congrArg some (kE s t).symm),fun zz k=>(nomatch k),C2.1⟩
theorem Jl{sh:aN}(g:bZ sh){i:Nat}(hi:i<sh.items.length):∃b,sh.owned[i]? =some b∧bG sh i=if b then some ([114,32]++(sh.items[i]?).getD []) else if i<sh.upto then some sh.main else none:=by
 have:=g.own
 refine ⟨_,List.getElem?_eq_getElem (by omega), ?_⟩
 unfold bG
 rw [List.getElem?_eq_getElem (by omega:i<sh.owned.length)]
 rfl
theorem Jm{N D n i z x:Nat}{C:aO}(hC:C=au tab N (D+2)){hd:Option Nat}{Q:Q1}{E:E1}{f:fM}{F H:MH}{st:Nat}{cau:V}{s:List Txt}{w:Wd}{g:aK}{tl:Loc}(gd:bZ f.sh)(hil:i<f.sh.items.length)(hf:bO g)
  (hm:lW f F st s) (C0:aj F ((z,d8 g x)::dX f.lc w) H) (hc0:g.code≠0)
  (next:∀H',aj F ((z,d8 (bT g (bG f.sh i)) x)::dX f.lc w) H'→kO C N hd Q E n 5 (f.loc st cau i false (bu tl "fault" (.ref z))) H'):
  kO C N hd Q E n 3 (f.loc st cau i false (bu tl "fault" (.ref z))) H:=by
 have fi:=hm.b.fi
 have fo:=hm.b.fo
 have g7:=cM gd.n7
 obtain ⟨b,hob,hna⟩:=Jl gd hil
 obtain ⟨t,ht⟩:∃t,f.sh.items[i]? =some t:=⟨_,List.getElem?_eq_getElem hil⟩
 have hn:=(gd.names t (List.mem_of_getElem? ht)).2
 have gow:(f.sh.owned.map V.bool).length≤7:=by rw [List.length_map,gd.own];exact gd.n7
 have g2:(f.sh.items.map V.str)[i]? =some (.str t):=by rw [List.getElem?_map,ht];rfl
 have g3:(f.sh.owned.map V.bool)[i]? =some (.bool b):=by rw [List.getElem?_map,hob];rfl
 have g4:([114,32]++t).length≤1000:=by simp;omega
 have g5:=C0.at 0 rfl
 have hc: ¬g.code=0:=hc0
 unfold kO
 induction b using Bool.casesOn with
 | true=>
  rw [hna,if_pos rfl,ht] at next
  refine wg (.v aP (.o g5 (.f (aM hc) (.o (C0.fr _ _ fo) (.k (pl (aA gow rfl)) (.v g3 (.v aP (.o (C0.fr _ _ fi) (.k (pl (aA g7 rfl)) (.v g2 (.t (aA g4 rfl) .n))))))))))) rfl ?_
  refine cu hC (Hk g5 (Nat.le_trans g4 (aQ rfl)) hf.val.len hf.info.len ?_)
  exact next _ (C0.set 0 _ rfl)
 | false=>
  rw [hna,if_neg Bool.false_ne_true] at next
  by_cases hu:i<f.sh.upto
  ·rw [if_pos hu] at next
   have gu:(i:Int)<(f.sh.upto:Int):=fZ hu
   refine wg (.v aP (.o g5 (.f (aM hc) (.o (C0.fr _ _ fo) (.k (pl (aA gow rfl)) (.v g3 (.f rfl (.t (aL gu) (.v aP .n))))))))) rfl ?_
   refine cu hC (Hk g5 (Nat.le_trans gd.main.2 (aQ rfl)) hf.val.len hf.info.len ?_)
   exact next _ (C0.set 0 _ rfl)
  ·rw [if_neg hu] at next
   have gu: ¬(i:Int)<(f.sh.upto:Int):=iC hu
   refine W.exec_ok _ (.v aP (.o g5 (.f (aM hc) (.o (C0.fr _ _ fo) (.k (pl (aA gow rfl)) (.v g3 (.f rfl (.f (bc gu) .z)))))))) rfl ?_
   exact next _ C0
theorem WR(sh:aN)(i:Nat)(code:Int):(sh.ranges.filter (dB i code)).getLast? =dW sh i code:=by
 unfold dW
 rw [List.getLast?_eq_head?_reverse,←List.filter_reverse,List.head?_filter]
theorem Jo{H:MH}{a b:Nat}{Q:Bool→MH→Prop}(ha:H a=some (.list []))(hb:H b=some (.list []))(h:Q true H):mY .eq (.ref a) (.ref b) H Q:=by
 rw [oW]
 refine aa.mk (x:=true) ?_ h
 show (bN (H a)).bind (fun xs=>(bN (H b)).bind fun ys=>_)=_
 rw [ha,hb];rfl
theorem WT{H:MH}{a b:Nat}{xs:List V}{x:V}{Q:Bool→MH→Prop}(ha:H a=some (.list (xs++ [x])))(hb:H b=some (.list []))(h:Q false H):mY .eq (.ref a) (.ref b) H Q:=by
 rw [oW]
 refine aa.mk (x:=false) ?_ h
 show (bN (H a)).bind (fun xs=>(bN (H b)).bind fun ys=>_)=_
 rw [ha,hb]
 exact if_neg (fun e:(xs++ [x]).length=0=>by rw [List.length_append] at e;exact nomatch e)
theorem Jp:∀b:Option (Txt×Txt),bB (gM b) (.str [58,58,101,114,114,111,114,73,110,102,111])=true∧(gM b).length<1000
 | none=>⟨rfl,Nat.le_of_ble_eq_true rfl⟩
 | some (_,_)=>⟨rfl,Nat.le_of_ble_eq_true rfl⟩
theorem Jq(x:V):∀b:Option (Txt×Txt),bB (bC (gM b) (.str EI) x) (.str [58,58,101,114,114,111,114,67,111,100,101])=true∧(bC (gM b) (.str EI) x).length<1000
 | none=>⟨rfl,Nat.le_of_ble_eq_true rfl⟩
 | some (_,_)=>⟨rfl,Nat.le_of_ble_eq_true rfl⟩
theorem WW(v e:Txt):∀b:Option (Txt×Txt),bC (bC (gM b) (.str EI) (.str v)) (.str EC) (.str e)=gM (some (v,e))
 | none=>rfl
 | some (_,_)=>rfl
theorem WX{x:String}{v w:V}(e:v=w)(i:Nat){xs:List String}{vs:List V}{l:Loc}(h:wk xs x i=true)(h':Nat.blt i vs.length=true)(hv:yu vs i=v):cR (gR xs vs l) x=some w:=e▸hv▸gw i h h'
theorem Jr{N D n i z x:Nat}{C:aO}(hC:C=au tab N (D+8)){hd:Option Nat}{Q:Q1}{E:E1}{f:fM}{F H:MH}{st:Nat}{cau:V}{s:List Txt}{w:Wd}{g:aK}{tl:Loc}(gd:bZ f.sh)(hf:bO g)(hs:s.length≤900)
  (hm:lW f F st s) (C0:aj F ((z,d8 g x)::dX f.lc w) H) (hx:F x=some (cB g.ex))
  (h1:dW f.sh i g.code=none→∀H',aj F ((z,d8 g x)::dX f.lc w) H'→Q (.ref z) H')
  (h2:∀r,dW f.sh i g.code=some r→∀F' H' st' cau' tl',Le F F'→kW f F' H' st' cau' (if (cO r g.code).2 then some g else none) (s.take r.dep) {w with book:=if r.ca then iJ w.book g else w.book}→jj C N hd Q E n (f.loc st' cau' (cO r g.code).1 (cO r g.code).2 tl') H'):
  kO C N hd Q E n 5 (f.loc st cau i false (bu tl "fault" (.ref z))) H:=by
 have fr:=hm.b.fr
 have fs:=hm.stk
 have gr:(f.sh.ranges.map bH).length≤4:=by rw [List.length_map];exact gd.rl
 have hz:=C0.at 0 rfl
 have l1:cR (f.loc st cau i false (bu tl "fault" (.ref z))) "at"=some (.int (i:Nat)):=rfl
 have l2:cR (f.loc st cau i false (bu tl "fault" (.ref z))) "fault"=some (.ref z):=(aP:cR (bu tl "fault" (.ref z)) "fault"=_)
 unfold kO
 refine wg (.o (C0.fr _ _ fr) (.t (aA gr rfl) .n)) rfl ?_
 refine WF hC (C0.fr _ _ fr) hz l1 l2 f.sh.ranges [] ?_
 rw [List.nil_append]
 have hlast:=WR f.sh i g.code
 have hle:=List.length_filter_le (dB i g.code) f.sh.ranges
 rcases List.eq_nil_or_concat (f.sh.ranges.filter (dB i g.code)) with hnil | ⟨init,r,hcc⟩
 ·rw [hnil] at hlast ⊢
  intro zt hzt
  refine wg (.v aP .n) rfl ?_
  intro y hy
  refine wg .n rfl ?_
  refine Jo (bx hy aq) aq ?_
  refine wg (.v (aD rfl l2) .n) rfl ?_
  exact h1 hlast.symm _ ((C0.le (Le.new _ hzt)).le (Le.new _ hy))
 ·rw [hcc,List.concat_eq_append] at hlast hle ⊢
  rw [List.getLast?_concat] at hlast
  rw [List.map_append]
  have h2':=h2 r hlast.symm
  clear h1 h2
  intro zt hzt
  refine wg (.v aP .n) rfl ?_
  intro y hy
  refine wg .n rfl ?_
  refine WT (x:=bH r) (bx hy aq) aq ?_
  have hin:(init.map bH).length≤1000:=by rw [List.length_append] at hle;rw [List.length_map];exact Nat.le_trans (Nat.le_trans (Nat.le_add_right _ _) (Nat.le_trans hle gd.rl)) (aQ rfl)
  have p1:=nj (x:=bH r) hin
  have p2:=nq (as:=init.map bH) (x:=bH r)
  have C1:=(C0.le (Le.new (.list (init.map bH++List.map bH [r])) hzt)).le (Le.new (.list []) hy)
  obtain ⟨hrm,htk⟩:=uX hlast.symm
  obtain ⟨_,_,_,hdep,hbe,_⟩:=gd.rng r hrm
  have e4:cI (List.map V.str s) none (some r.dep)=(s.take r.dep).map V.str:=List.map_take.symm
  refine wg (.v aP (.o (bx hy aq) (.k p1 (.v p2 (.v rfl (.v (gw 5 rfl rfl) .n)))))) rfl ?_
  refine pq (C1.fr _ _ fs) rfl (rB (Nat.lt_of_le_of_lt hdep (Nat.le_of_ble_eq_true rfl))) e4 (fY (cM hs) rfl) fun st' hst'=> ?_
  obtain ⟨C2,le2⟩:=C1.newF (aZ (s.take r.dep)) hst'
  have f2:(F.upd st' (aZ (s.take r.dep))) st'=some (aZ (s.take r.dep)):=cF _ _ _
  generalize F.upd st' (aZ (s.take r.dep))=F2 at C2 le2 f2
  have ek:(iH r.ca== [99,97,116,99,104])=r.ca:=by induction r.ca using Bool.casesOn<;>rfl
  have ek2:(iH r.ca== [108,111,111,112])= !r.ca:=by induction r.ca using Bool.casesOn<;>rfl
  induction hca:r.ca using Bool.casesOn with
  | true=>
   have ek3:=ek.trans hca
   have ek4:(iH r.ca== [108,111,111,112])=false:=ek2.trans (congrArg Bool.not hca)
   rw [pC fun e=>(nomatch hca.symm.trans e.1),if_pos hca] at h2'
   have fin:∀(H':MH) (tl':Loc) (o:List (V×V)),o=gM (iJ w.book g)→aj F2 ((z,d8 g x):: [(f.lc.L, .list (w.log.map bR)),(f.lc.B, .dict o),(f.lc.cn, .list [.int w.cnt])]) H'→jj C N hd Q E n (f.loc st' (.ref z) r.bt r.be tl') H':=fun H' tl' o eo C'=>by
    subst eo
    obtain ⟨C4,le4⟩:=C'.frz
    refine h2' _ H' st' (.ref z) tl' (le2.trans le4) ⟨hm.b.mono (le2.trans le4),le4 _ _ f2,fun g' hg=> ?_,C4⟩
    obtain rfl:=(rN hg).2
    exact ⟨z,x,rfl,cF _ _ _,le4 _ _ (le2 _ _ hx)⟩
   by_cases c1:g.code=1
   ·have eb:bC (bC (gM w.book) (.str EI) (.str (fC g))) (.str EC) (.str (gV g.ec))=gM (iJ w.book g):=by rw [Io c1];exact WW _ _ _
    have b1:=(Jp w.book).1
    have b2:=(Jp w.book).2
    have b3:∀x:V,_:=fun x=>(Jq x w.book).1
    have b4:∀x:V,_:=fun x=>(Jq x w.book).2
    by_cases c2:g.info= []
    ·rw [show fC g=g.val from if_pos c2] at eb
     refine wg (.v (aD rfl (gw 0 rfl rfl)) (.f ek4 (.f ek4 (.v (aD rfl (gw 3 rfl rfl)) (.v (bJ rfl (aD rfl (gw 0 rfl rfl))) (.t ek3 (.v (bJ rfl (aD rfl (bJ rfl (aD rfl l2)))) (.v (aD rfl (bJ rfl (aD rfl (bJ rfl (aD rfl l2))))) (.o ((C1.new _ hst').at 1 rfl) (.t (aR c1) (.v (aD rfl (bJ rfl (aD rfl (bJ rfl (aD rfl l2))))) (.o ((C1.new _ hst').at 1 rfl) (.f (bY (aR c2)) (.v (aD rfl (bJ rfl (aD rfl (bJ rfl (aD rfl l2))))) (.o ((C1.new _ hst').at 1 rfl) (.o ((C1.new _ hst').at 3 rfl) (.t b1 (.t (aL b2) (.v (aD rfl (bJ rfl (aD rfl (bJ rfl (aD rfl l2))))) (.o (((C1.new _ hst').set 3 _ rfl).at 1 rfl) .n)))))))))))))))))))) rfl ?_
     refine cu hC (yJ (d:=D+5) fun H5 le5=> ?_)
     have C5:=(C2.set 2 (.dict (bC (gM w.book) (.str EI) (.str g.val))) rfl).le le5
     refine wg (.o (C5.at 2 rfl) (.t (b3 _) (.t (aL (b4 _)) .n))) rfl ?_
     exact fin _ _ _ eb (C5.set 2 _ rfl)
    ·rw [show fC g=g.info from if_neg c2] at eb
     refine wg (.v (aD rfl (gw 0 rfl rfl)) (.f ek4 (.f ek4 (.v (aD rfl (gw 3 rfl rfl)) (.v (bJ rfl (aD rfl (gw 0 rfl rfl))) (.t ek3 (.v (bJ rfl (aD rfl (bJ rfl (aD rfl l2)))) (.v (aD rfl (bJ rfl (aD rfl (bJ rfl (aD rfl l2))))) (.o ((C1.new _ hst').at 1 rfl) (.t (aR c1) (.v (aD rfl (bJ rfl (aD rfl (bJ rfl (aD rfl l2))))) (.o ((C1.new _ hst').at 1 rfl) (.t (j8 (aM c2)) (.v (aD rfl (bJ rfl (aD rfl (bJ rfl (aD rfl l2))))) (.o ((C1.new _ hst').at 1 rfl) (.o ((C1.new _ hst').at 3 rfl) (.t b1 (.t (aL b2) (.v (aD rfl (bJ rfl (aD rfl (bJ rfl (aD rfl l2))))) (.o (((C1.new _ hst').set 3 _ rfl).at 1 rfl) .n)))))))))))))))))))) rfl ?_
     refine cu hC (yJ (d:=D+5) fun H5 le5=> ?_)
     have C5:=(C2.set 2 (.dict (bC (gM w.book) (.str EI) (.str g.info))) rfl).le le5
     refine wg (.o (C5.at 2 rfl) (.t (b3 _) (.t (aL (b4 _)) .n))) rfl ?_
     exact fin _ _ _ eb (C5.set 2 _ rfl)
   ·refine wg (.v (aD rfl (gw 0 rfl rfl)) (.f ek4 (.f ek4 (.v (aD rfl (gw 3 rfl rfl)) (.v (bJ rfl (aD rfl (gw 0 rfl rfl))) (.t ek3 (.v (bJ rfl (aD rfl (bJ rfl (aD rfl l2)))) (.v (aD rfl (bJ rfl (aD rfl (bJ rfl (aD rfl l2))))) (.o ((C1.new _ hst').at 1 rfl) (.f (aM c1) .n)))))))))) rfl ?_
    exact fin _ _ _ (congrArg gM (Ip c1).symm) C2
  | false=>
   have ek3:=ek.trans hca
   have ek4:(iH r.ca== [108,111,111,112])=true:=ek2.trans (congrArg Bool.not hca)
   rw [if_neg fun e:r.ca=true=>(nomatch hca.symm.trans e:False)] at h2'
   have C4:=C2.frz
   by_cases c4:g.code=4
   ·induction ht:r.ct using Option.casesOn with
    | none=>
     unfold dB at htk
     rw [hca,c4,ht] at htk
     exact nomatch (Bool.and_eq_true_iff.1 htk).2
    | some t=>
     have eo:kI r.ct= .tup [.int (t:Nat), .bool false]:=by rw [ht];rfl
     rw [IW hca c4 ht] at h2'
     refine wg (.v (aD rfl (gw 0 rfl rfl)) (.t ek4 (.v (aD rfl (bJ rfl (aD rfl l2))) (.o ((C1.new _ hst').at 1 rfl) (.t (aR c4) (.v (aD rfl (WX eo 4 rfl rfl rfl)) (.v (bJ rfl (aD rfl (gw 0 rfl rfl))) (.f ek3 .n)))))))) rfl ?_
     exact h2' _ _ st' cau _ (le2.trans C4.2) ⟨hm.b.mono (le2.trans C4.2),C4.2 _ _ f2,fun g' hg=>(nomatch (rN hg).1),C4.1⟩
   ·rw [pC fun e=>c4 e.2] at h2'
    refine wg (.v (aD rfl (gw 0 rfl rfl)) (.t ek4 (.v (aD rfl (bJ rfl (aD rfl l2))) (.o ((C1.new _ hst').at 1 rfl) (.f (aM c4) (.f (aM c4) (.v (aD rfl (gw 3 rfl rfl)) (.v (bJ rfl (aD rfl (gw 0 rfl rfl))) (.f ek3 .n))))))))) rfl ?_
    exact h2' _ _ st' cau _ (le2.trans C4.2) ⟨hm.b.mono (le2.trans C4.2),C4.2 _ _ f2,fun g' hg=>(nomatch hca.symm.trans (hbe (rN hg).1).1),C4.1⟩
noncomputable def mu(l i:Nat):Nat:=(9 - l)*8+(8 - i)
noncomputable def gj(p:List (Nat×Txt×Nat))(sh:aN)(i:Nat)(e:Option aK)(s:List Txt)(ss:List (List Txt))(w:Wd)(r:Res)(w':Wd):Prop:=
 ∀(N D:Nat) (hd:Option Nat) (f:fM) (F H:MH) (st:Nat) (cau:V) (tl:Loc) (Q:Q1) (E:E1) (n:Nat),200000≤N→f.sh=sh→f.ss=ss→2*(9 - w.log.length)+8≤D→mu w.log.length i<n→F f.lc.P=some (.list (p.map cN))→
  kW f F H st cau e s w→pH f.lc F Q w' r→jj (au tab N D) N hd Q E n (f.loc st cau i e.isSome tl) H
noncomputable def pI(p:List (Nat×Txt×Nat))(sh:aN)(i:Nat)(s:List Txt)(ss:List (List Txt))(w:Wd)(g:aK)(r:Res)(w':Wd):Prop:=
 ∀(N D:Nat) (hd:Option Nat) (f:fM) (F H:MH) (st:Nat) (cau:V) (tl:Loc) (Q:Q1) (E:E1) (n z x:Nat),200000≤N→f.sh=sh→f.ss=ss→2*(9 - w.log.length)+8≤D→(9 - w.log.length)*8+8<n→F f.lc.P=some (.list (p.map cN))→
  lW f F st s→aj F ((z,d8 g x)::dX f.lc w) H→F x=some (cB g.ex)→pH f.lc F Q w' r→kO (au tab N D) N hd Q E n 3 (f.loc st cau i false (bu tl "fault" (.ref z))) H
theorem WY{p:List (Nat×Txt×Nat)}{sh:aN}{i:Nat}{s:List Txt}{ss:List (List Txt)}{w:Wd}{f:aK}(g:bZ sh)(hi:i<sh.items.length)(hf:bO f)(hf':bO (bT f (bG sh i)))(hs:s.length≤900)(hc0:f.code≠0)
  (ht:dW sh i f.code=none):pI p sh i s ss w f (.flt (bT f (bG sh i))) w:=by
 intro N D hd fr F H st cau tl Q E n z x hN e1 e2 hD hn hP hm C hx post
 subst e1
 obtain ⟨D,rfl⟩:=iQ (Nat.le_trans (Nat.le_add_left _ _) hD)
 have nc:=rI f (bG fr.sh i)
 have hx':F x=some (cB (bT f (bG fr.sh i)).ex):=by rw [nc.2.1];exact hx
 refine Jm (D:=D+6) rfl g hi hf hm C hc0 fun H1 C1=>Jr rfl g hf' hs hm C1 hx' (fun zz H2 C2=>post F H2 z x (Le.refl _) C2 hx') fun r hr=> ?_
 rw [nc.1,ht] at hr
 exact nomatch hr
theorem W0{p:List (Nat×Txt×Nat)}{sh:aN}{i:Nat}{s:List Txt}{ss:List (List Txt)}{w w':Wd}{f:aK}{r:Rng}{res:Res}(g:bZ sh)(hi:i<sh.items.length)(hf:bO f)(hf':bO (bT f (bG sh i)))(hs:s.length≤900)(hc0:f.code≠0)
  (ht:dW sh i f.code=some r)
  (h:gj p sh (cO r f.code).1 (if (cO r f.code).2 then some (bT f (bG sh i)) else none) (s.take r.dep) ss {w with book:=if r.ca then iJ w.book (bT f (bG sh i)) else w.book} res w'):pI p sh i s ss w f res w':=by
 intro N D hd fr F H st cau tl Q E n z x hN e1 e2 hD hn hP hm C hx post
 subst e1
 have hD0:=hD
 obtain ⟨D,rfl⟩:=iQ (Nat.le_trans (Nat.le_add_left _ _) hD)
 have nc:=rI f (bG fr.sh i)
 have hx':F x=some (cB (bT f (bG fr.sh i)).ex):=by rw [nc.2.1];exact hx
 refine Jm (D:=D+6) rfl g hi hf hm C hc0 fun H1 C1=>Jr rfl g hf' hs hm C1 hx' (fun hr=> ?_) fun r' hr=> ?_
 ·rw [nc.1,ht] at hr
  exact nomatch hr
 ·rw [nc.1] at hr ⊢
  obtain rfl:=Option.some.inj (ht.symm.trans hr)
  intro F' H' st' cau' tl' le hat
  have:=h N (D+8) hd fr F' H' st' cau' tl' Q E n hN rfl e2 hD0 (Nat.lt_of_le_of_lt (Nat.add_le_add_left (Nat.sub_le _ _) _) hn) (le _ _ hP) hat (post.mono le)
  rw [Jd] at this
  exact this
theorem W3{p:List (Nat×Txt×Nat)}{sh:aN}{s:List Txt}{ss:List (List Txt)}{w:Wd}{t:Txt}{e:Option aK}(iv:dj p sh sh.items.length e (s++ [t]) ss w):gj p sh sh.items.length e (s++ [t]) ss w (.ok t) w:=by
 intro N D hd f F H st cau tl Q E n hN e1 e2 hD hn hP hat post
 subst e1
 obtain ⟨D,rfl⟩:=iQ (Nat.le_trans (Nat.le_add_left 1 _) hD)
 obtain ⟨n,rfl⟩:=iQ (Nat.le_trans (Nat.le_add_left 1 _) hn)
 have n2:=iv.nums.2.1
 rw [List.length_append] at n2
 exact WM rfl iv.g.n7 (Nat.le_trans (Nat.le_trans (Nat.le_add_right _ _) n2) (aQ rfl)) hat post
theorem W4{p:List (Nat×Txt×Nat)}{sh:aN}{i:Nat}{e:Option aK}{s:List Txt}{ss:List (List Txt)}{w w':Wd}{r:Res}(iv:dj p sh i e s ss w)(hi:sh.items[i]? =some [])
  (h:gj p sh (i+1) none (s++nD e) ss {w with cnt:=w.cnt+lV e} r w'):gj p sh i e s ss w r w':=by
 intro N D hd f F H st cau tl Q E n hN e1 e2 hD hn hP hat post
 subst e1
 have hD0:=hD
 have hil:=(List.getElem?_eq_some_iff.1 hi).1
 have h7:=iv.g.n7
 have n2:=iv.nums.2.1
 obtain ⟨D,rfl⟩:=iQ (Nat.le_trans (Nat.le_add_left 4 _) hD)
 obtain ⟨n,rfl⟩:=iQ (Nat.le_trans (Nat.le_add_left 1 _) hn)
 refine WN rfl h7 (Nat.le_trans n2 (aQ rfl)) hi (fun f hf=>(iv.he f hf).1) hat fun F' H' st' cau' tl' le hat'=> ?_
 exact h N (D+4) hd f F' H' st' cau' tl' Q E n hN rfl e2 hD0 (Nat.lt_of_lt_of_le (Nat.add_lt_add_left (Nat.sub_lt_sub_left (Nat.lt_of_lt_of_le hil (Nat.le_trans h7 (Nat.le_succ 7))) (Nat.lt_succ_self i)) _) (Nat.le_of_lt_succ hn)) (le _ _ hP) hat' (post.mono le)
theorem Js{N D:Nat}{hd:Option Nat}{lc:LC}{F H:MH}{Q:Q1}{E:E1}{v:V}{sh:aN}{ss:List (List Txt)}{w:Wd}(hv:jh F v sh)(C0:aj F (dX lc w) H)
  (h:∀f F' H' st,f.lc=lc→f.sh=sh→f.ss=ss→Le F F'→kW f F' H' st .none none [] w→jj (au tab N (D+1)) N hd Q E N (f.loc st .none 0 false []) H'):
  au tab N (D+2) hd (.con (.ref 959)) [lc.wd,v,u9 ss] H Q E:=by
 cases hv with | mk it rg ow f1 f2 f3=>
 have h':∀C,C=au tab N (D+1)→∀F' H' st,Le F F'→kW ⟨lc, .tup [.ref it, .ref rg, .ref ow, .int (sh.upto:Nat), .str sh.main],it,rg,ow,sh,ss⟩ F' H' st .none none [] w→jj C N hd Q E N (fM.loc ⟨lc, .tup [.ref it, .ref rg, .ref ow, .int (sh.upto:Nat), .str sh.main],it,rg,ow,sh,ss⟩ st .none 0 false []) H':=fun C hC F' H' st=>hC▸h _ F' H' st rfl rfl rfl
 clear h
 refine kf tC rfl rfl fun C hC=> ?_
 refine wg .n rfl ?_
 intro st hst
 have C1:=C0.newF (aZ []) hst
 refine wg .n rfl ?_
 exact h' C hC _ _ st C1.2 ⟨⟨C1.2 _ _ f1,C1.2 _ _ f2,C1.2 _ _ f3⟩,cF _ _ _,fun zz e=>(nomatch e),C1.1⟩
theorem W5(l:Nat){i j:Nat}(h:j≤i):mu l i≤mu l j:=Nat.add_le_add_left (Nat.sub_le_sub_left h 8) _
theorem Jt(l:Nat){i:Nat}(h:i<8):mu l (i+1)<mu l i:=Nat.add_lt_add_left (Nat.sub_lt_sub_left h (Nat.lt_succ_self i)) _
theorem zq:∀l,l<9→∀k,k<10→l+1≤k→∀i,i<8→fK k 0≤fK l i∧mu k 0<mu l i:=by
 decide+kernel
theorem W6:∀l,l<9→∀k,k<101→l+1≤k∧k≤fK (l+1) 0→∀i,i<8→fK k (i+1)≤fK l i∧mu k (i+1)<mu l i:=by
 decide+kernel
theorem Ju:∀l,l<101→∀i,i<8→fK (l+1) (i+1)≤fK l i∧mu (l+1) (i+1)<mu l i:=by
 decide+kernel
theorem Jv(l i:Nat):mu l i≤80:=Nat.add_le_add (Nat.mul_le_mul_right 8 (Nat.sub_le 9 l)) (Nat.sub_le 8 i)
theorem Jw{l k:Nat}(i:Nat)(h:l≤k):mu k i≤mu l i:=Nat.add_le_add_right (Nat.mul_le_mul_right 8 (Nat.sub_le_sub_left h 9)) _
theorem zu{l k D:Nat}(h:l≤k)(hD:2*(9 - l)+8≤D):2*(9 - k)+8≤D:=Nat.le_trans (Nat.add_le_add_right (Nat.mul_le_mul_left 2 (Nat.sub_le_sub_left h 9)) 8) hD
theorem W7{l D:Nat}(h:l<9)(hD:2*(9 - l)+8≤D+8):2*(9 - (l+1))+8≤D+6:=by
 rw [←Nat.succ_pred_eq_of_pos (Nat.sub_pos_of_lt h)] at hD
 exact Nat.le_of_add_le_add_right (b:=2) hD
theorem vf{p:List (Nat×Txt×Nat)}{l:Nat}(h:∀t,¬bM p l= .val t):l<p.length:=by
 refine Decidable.byContradiction fun hc=> ?_
 exact h _ (rE (List.getElem?_eq_none (Nat.le_of_not_lt hc)))
noncomputable def Jx(p:List (Nat×Txt×Nat))(sh:aN)(i:Nat)(s:List Txt)(ss:List (List Txt))(w2:Wd)(r:Res)(w':Wd)(r1:Res):Prop:=match r1 with
 | .ok t=>gj p sh (i+1) none (s++ [t]) ss w2 r w'
 | .flt f=>pI p sh i s ss w2 f r w'
theorem zy{p:List (Nat×Txt×Nat)}{sh:aN}{i:Nat}{s:List Txt}{ss:List (List Txt)}{w w':Wd}{r:Res}{nm:Txt}(iv:dj p sh i none s ss w)(hi:sh.items[i]? =some nm)(hnm:nm≠ [])
  (hv:∀t,bM p w.log.length= .val t→gj p sh (i+1) none (s++ [t]) ss (di w nm (ss++ [s])) r w')
  (hf:∀f,bM p w.log.length= .flt f→pI p sh i s ss (di w nm (ss++ [s])) f r w')
  (hn:∀m,bM p w.log.length= .nest m→∃r1 w2,gj p (dU m) 0 none [] (ss++ [s]) (di w nm (ss++ [s])) r1 w2∧w.log.length<w2.log.length∧Jx p sh i s ss w2 r w' r1):gj p sh i none s ss w r w':=by
 intro N D hd fr F H st cau tl Q E n hN e1 e2 hD hn' hP hat post
 subst e1
 subst e2
 have hD0:=hD
 obtain ⟨n1,n2,n3,n4,n5,n6⟩:=iv.nums
 have hil:=(List.getElem?_eq_some_iff.1 hi).1
 have h7:=iv.g.n7
 have ell:(di w nm (fr.ss++ [s])).log.length=w.log.length+1:=List.length_append
 obtain ⟨D,rfl⟩:=iQ (Nat.le_trans (Nat.le_add_left 8 _) hD)
 obtain ⟨n,rfl⟩:=iQ (Nat.le_trans (Nat.le_add_left 1 _) hn')
 have hm:lW fr F st s:=⟨hat.b,hat.stk⟩
 have hs:s.length≤900:=Nat.le_trans n2 (aQ rfl)
 have hi8:i<8:=Nat.lt_of_le_of_lt n1 (Nat.lt_succ_self 7)
 have lt:∀{x:Nat},x<mu w.log.length i→x<n:=fun h=>Nat.lt_of_lt_of_le h (Nat.le_of_lt_succ hn')
 have m1:mu (w.log.length+1) (i+1)<n:=lt (Ju _ (Nat.lt_succ_of_le n4) _ hi8).2
 have m2:w.log.length<p.length→mu (w.log.length+1) 0<n:=fun h=>lt (zq _ (n5▸h) _ (Nat.succ_lt_succ (n5▸h)) (Nat.le_refl _) _ hi8).2
 have m3:2*(9 - (w.log.length+1))+8≤D+8:=zu (Nat.le_succ _) hD0
 have m5:=Nat.lt_of_le_of_lt (Jv (di w nm (fr.ss++ [s])).log.length 0) (Nat.lt_of_lt_of_le (aQ rfl:80<200000) hN)
 rw [←ell] at m1 m2 m3
 refine WQ (D:=D+7) rfl h7 hs (Nat.le_trans n3 (aQ rfl)) hi hnm hat fun H1 C1=> ?_
 refine WL (d:=D+4) hP C1 (Nat.le_trans n4 (aQ rfl)) (n5▸aQ rfl) n6 ?_ ?_ ?_
 ·intro t ht F' H' z rest le C' hz hr
  exact Jk (D:=D+7) rfl hs (hm.mono le) C' hz hr fun F2 H2 st2 cau2 tl2 le2 hat2=>
   hv t ht N (D+8) hd fr F2 H2 st2 cau2 tl2 Q E n hN rfl rfl m3 m1 (le2 _ _ (le _ _ hP)) hat2 (post.mono (le.trans le2))
 ·intro m hm' _ F' H' v le C' hsv
  have hlt:=vf (p:=p) (l:=w.log.length) (fun t ht=>nomatch ht.symm.trans hm')
  obtain ⟨r1,w2,a1,a2,a3⟩:=hn m hm'
  have a2':(di w nm (fr.ss++ [s])).log.length≤w2.log.length:=by rw [ell];exact a2
  refine Js (D:=D+5) hsv C' fun f2 F2 H2 st2 q1 q2 q3 le2 hat2=> ?_
  refine a1 N (D+6) hd f2 F2 H2 st2 .none [] _ _ N hN q2 q3 (by rw [ell];exact W7 (n5▸hlt) hD0) m5 (by rw [q1];exact le2 _ _ (le _ _ hP)) hat2 ?_
  rw [q1]
  induction r1 using Res.casesOn with
  | ok t=>
   intro F3 H3 z rest le3 C3 hz hr
   have leA:=le.trans (le2.trans le3)
   exact Jk (D:=D+7) rfl hs (hm.mono leA) C3 hz hr fun F4 H4 st4 cau4 tl4 le4 hat4=>
    a3 N (D+8) hd fr F4 H4 st4 cau4 tl4 Q E n hN rfl rfl (zu a2' m3) (Nat.lt_of_le_of_lt (Jw _ a2') m1) (le4 _ _ (leA _ _ hP)) hat4 (post.mono (leA.trans le4))
  | flt f=>
   intro F3 H3 z x le3 C3 hx
   have leA:=le.trans (le2.trans le3)
   exact a3 N (D+8) hd fr F3 H3 st cau tl Q E n z x hN rfl rfl (zu a2' m3) (Nat.lt_of_le_of_lt (Jw 0 a2') (m2 hlt)) (leA _ _ hP) (hm.mono leA) C3 hx (post.mono leA)
 ·intro f hf' F' H' z x le C' hx
  have hlt:=vf (p:=p) (l:=w.log.length) (fun t ht=>nomatch ht.symm.trans hf')
  exact hf f hf' N (D+8) hd fr F' H' st cau tl Q E n z x hN rfl rfl m3 (m2 hlt) (le _ _ hP) (hm.mono le) C' hx (post.mono le)
theorem W8{p:List (Nat×Txt×Nat)}{sh:aN}{i:Nat}{s:List Txt}{ss:List (List Txt)}{w w':Wd}{r:Res}{nm t:Txt}(iv:dj p sh i none s ss w)(hi:sh.items[i]? =some nm)(hnm:nm≠ [])(hc:bM p w.log.length= .val t)
  (h:gj p sh (i+1) none (s++ [t]) ss (di w nm (ss++ [s])) r w'):gj p sh i none s ss w r w':=
 zy iv hi hnm (fun t' e=>by (injection (hc.symm.trans e) with zh;subst zh);exact h) (fun f e=>nomatch hc.symm.trans e) fun m e=>nomatch hc.symm.trans e
theorem W9{p:List (Nat×Txt×Nat)}{sh:aN}{i:Nat}{s:List Txt}{ss:List (List Txt)}{w w':Wd}{r:Res}{nm:Txt}{f:aK}(iv:dj p sh i none s ss w)(hi:sh.items[i]? =some nm)(hnm:nm≠ [])(hc:bM p w.log.length= .flt f)
  (h:pI p sh i s ss (di w nm (ss++ [s])) f r w'):gj p sh i none s ss w r w':=
 zy iv hi hnm (fun t e=>nomatch hc.symm.trans e) (fun f' e=>by (injection (hc.symm.trans e) with zh;subst zh);exact h) fun m e=>nomatch hc.symm.trans e
theorem Jy{p:List (Nat×Txt×Nat)}{sh:aN}{i m:Nat}{s:List Txt}{ss:List (List Txt)}{w w2 w':Wd}{r r1:Res}{nm:Txt}(iv:dj p sh i none s ss w)(hi:sh.items[i]? =some nm)(hnm:nm≠ [])(hc:bM p w.log.length= .nest m)
  (h1:gj p (dU m) 0 none [] (ss++ [s]) (di w nm (ss++ [s])) r1 w2) (hl2:w.log.length<w2.log.length)
  (h2:Jx p sh i s ss w2 r w' r1):gj p sh i none s ss w r w':=
 zy iv hi hnm (fun t e=>nomatch hc.symm.trans e) (fun f e=>nomatch hc.symm.trans e) fun m' e=>by (injection (hc.symm.trans e) with zh;subst zh);exact ⟨r1,w2,h1,hl2,h2⟩
theorem Xa{k:Nat}(m:Nat)(hk:k<8):jf (iG k m):=
 (by decide:∀r,r<4→∀k,k<8→([0,1,2,3,4,([5,6, -1,40]:List Int)[r]?.getD 0,0,1]:List Int)[k]?.getD 0∈([-1,0,1,2,3,4,5,6,40]:List Int)) (m % 4) (Nat.mod_lt _ (Nat.zero_lt_succ 3)) k hk
theorem Jz:jf 0:=(by decide:(0:Int)∈([-1,0,1,2,3,4,5,6,40]:List Int))
theorem Xb(k m:Nat):jf (uL k m):=by
 unfold uL
 by_cases h:k=2
 ·rw [if_pos h]
  exact (by decide:∀r,r<3→([0,1,3]:List Int)[r]?.getD 0∈([-1,0,1,2,3,4,5,6,40]:List Int)) (m / 3 % 3) (Nat.mod_lt _ (Nat.zero_lt_succ 2))
 ·rw [if_neg h];exact Jz
theorem Xc(k m:Nat):jf (uM k m):=by
 unfold uM
 by_cases h:k=2
 ·rw [if_pos h,show (m:Int).fmod 3=_ from o9 m 3]
  exact (by decide:∀r,r<3→1+((r:Nat):Int)∈([-1,0,1,2,3,4,5,6,40]:List Int)) (m % 3) (Nat.mod_lt _ (Nat.zero_lt_succ 2))
 ·rw [if_neg h];exact Jz
theorem Xd(k m:Nat):gW (pg k m)∧(pg k m).length≤4:=by
 unfold pg
 by_cases h:k=7∧m / 3 % 2=1
 ·rw [if_pos h];exact ⟨qZ (by decide),Nat.le_refl _⟩
 ·rw [if_neg h];exact ⟨qZ (by decide),Nat.zero_le _⟩
theorem Xe{p:List (Nat×Txt×Nat)}(hp:rM p){l:Nat}{f:aK}(h:bM p l= .flt f):bO f∧f.info.length≤300∧f.code≠0∧l<9:=by
 have hlt:=vf (p:=p) (l:=l) fun t e=>nomatch h.symm.trans e
 rw [hp.len] at hlt
 induction hg:p[l]? using Option.casesOn with
 | none=>exact nomatch (rE hg).symm.trans h
 | some e=>
  obtain ⟨k,v,m⟩:=e
  by_cases k6:k=6
  ·subst k6;exact nomatch (uR hg).symm.trans h
  ·by_cases c0:iG k m=0
   ·exact nomatch (uT hg k6 c0).symm.trans h
   ·(injection ((uU hg k6 c0).symm.trans h) with zh;subst zh)
    obtain ⟨k8,hv,hvl⟩:=hp.ent _ (List.mem_of_getElem? hg)
    have io:=Xd k m
    refine ⟨⟨hv,hvl,io.1,Nat.le_trans io.2 (aQ rfl),Xa m k8,Xc k m,Xb k m,fun hc=> ?_⟩,Nat.le_trans io.2 (aQ rfl),c0,hlt⟩
    have k7: ¬k=7:=fun e=>hc (by subst e;rfl)
    exact ⟨if_neg k7,if_neg fun e=>k7 e.1⟩
theorem JB{t:Txt}(h:t.all dg=true):(kh t).all dg=true:=by
 by_cases c:150<t.length
 ·rw [o5 c,List.all_append,Bool.and_eq_true]
  exact ⟨List.all_eq_true.2 fun x m=>List.all_eq_true.1 h x (List.mem_of_mem_take m),by decide⟩
 ·rw [o6 c];exact h
theorem JC{a w c:Txt}(ha:a.all dg=true)(la:a.length≤4000)(hw:w.all dg=true)(lw:w.length≤26)(sw:w.contains 32=true)(hc:c.all dg=true)(lc:c.length≤153):
  gW (a++w++c++ [34])∧(a++w++c++ [34]).length≤5000∧(a++w++c++ [34]).length≤a.length+180:=by
 have l:=aC (aC (aC (Nat.le_refl a.length) lw) lc) (Nat.le_refl ([34]:Txt).length)
 have l1:a.length+26+153+1=a.length+180:=rfl
 have l2:=Nat.le_trans l (Nat.le_of_eq l1)
 refine ⟨⟨Nat.le_trans l2 (Nat.le_trans (Nat.add_le_add_right la _) (aQ rfl)), ?_,fun zz=>Ht ?_⟩,Nat.le_trans l2 (Nat.le_trans (Nat.add_le_add_right la _) (aQ rfl)),l2⟩
 ·rw [List.all_append,List.all_append,List.all_append,ha,hw,hc];rfl
 ·rw [List.contains_append,List.contains_append,List.contains_append,sw,Bool.or_true,Bool.true_or,Bool.true_or]
theorem JD{f:aK}{t:Txt}(hf:bO f)(ht:t.all dg=true)(hi:f.info.length≤4000):bO (eU f t)∧(eU f t).info.length≤f.info.length+200:=by
 have up:∀{m k:Nat},m≤k+180→m≤k+200:=fun h=>Nat.le_trans h (Nat.add_le_add_left (aQ rfl) _)
 by_cases hc:f.code=1
 ·have key:∀s:Txt,gW s→s.length≤5000→s.length≤f.info.length+200→bO {f with info:=s,noted:=true}∧s.length≤f.info.length+200:=
   fun s h1 h2 h3=>⟨⟨hf.val,hf.vlen,h1,h2,hf.code,hf.lvl,hf.ret,fun h=>absurd hc h⟩,h3⟩
  by_cases h0:f.info= []
  ·rw [uD hc h0]
   have np:=JC (w:=W1) hf.val.ok (fY hf.vlen rfl) (by decide) (aQ rfl) (by decide) (JB ht) (uB t)
   exact key _ np.1 np.2.1 (Nat.le_trans np.2.2 (Nat.le_trans (Nat.add_le_add_right hf.vlen _) (Nat.le_trans (aQ rfl) (Nat.le_add_left 200 _))))
  ·induction hn:f.noted using Bool.casesOn with
   | true=>
    rw [uE hc h0 hn]
    have np:=JC (w:=W2) hf.info.ok hi (by decide) (aQ rfl) (by decide) (JB ht) (uB t)
    exact key _ np.1 np.2.1 (up np.2.2)
   | false=>
    rw [uF hc h0 hn]
    exact key _ hf.info hf.ilen (Nat.le_add_right _ _)
 ·rw [uC hc];exact ⟨hf,Nat.le_add_right _ _⟩
theorem Xf{sh:aN}(g:bZ sh){i:Nat}(hil:i<sh.items.length){f:aK}(hf:bO f)(hi:f.info.length≤4000):bO (bT f (bG sh i))∧(bT f (bG sh i)).info.length≤f.info.length+200:=by
 obtain ⟨b,_,e⟩:=Jl g hil
 rw [e]
 induction b using Bool.casesOn with
 | true=>
  rw [if_pos rfl]
  refine JD hf ?_ hi
  rw [List.getElem?_eq_getElem hil,List.all_append,Option.getD_some,(g.names _ (List.getElem_mem hil)).1];rfl
 | false=>
  rw [if_neg Bool.false_ne_true]
  by_cases h:i<sh.upto
  ·rw [if_pos h];exact JD hf g.main.1 hi
  ·rw [if_neg h];exact ⟨hf,Nat.le_add_right _ _⟩
structure rP(w:Wd)(ss:List (List Txt))(r:Res)(w':Wd)(b:Nat):Prop where
 lo:w.log.length≤w'.log.length
 hi:w'.log.length≤b
 ft:∀f,r= .flt f→bO f∧f.info.length≤300*(11 - ss.length)∧f.code≠0∧w'.log.length≤9
structure vg(p:List (Nat×Txt×Nat))(sh:aN)(i:Nat)(e:Option aK)(s:List Txt)(ss:List (List Txt))(w:Wd)(r:Res)(w':Wd)(B:Nat):Prop where
 mac:∃k,k≤B∧gK p sh i e s ss w r w' k
 law:gj p sh i e s ss w r w'
 en:rP w ss r w' (fK w.log.length i)
structure JF(p:List (Nat×Txt×Nat))(sh:aN)(i:Nat)(s:List Txt)(ss:List (List Txt))(w:Wd)(f:aK)(r:Res)(w':Wd)(B:Nat):Prop where
 mac:∃k,k≤B∧pG p sh i s ss w f r w' k
 law:pI p sh i s ss w f r w'
 en:rP w ss r w' (fK w.log.length 0)
theorem rP.up{w w0:Wd}{ss:List (List Txt)}{r:Res}{w':Wd}{b b':Nat}(h:rP w ss r w' b)(k:w0.log.length≤w.log.length)(kb:b≤b'):rP w0 ss r w' b':=⟨Nat.le_trans k h.lo,Nat.le_trans h.hi kb,h.ft⟩
theorem vm(l:Nat){i j:Nat}(h:j≤i):fK l i≤fK l j:=Nat.add_le_add_left (Nat.sub_le_sub_left h 8) _
theorem Xg{M:Nat}(h:1≤M):4≤4 ^ M:=(Nat.pow_le_pow_right (Nat.zero_lt_succ 3) h:4 ^ 1≤4 ^ M)
theorem zA{x c k:Nat}(h:4≤x)(hc:c≤8)(hk:k≤x):k+c≤x*4:=
 Nat.le_trans (Nat.le_of_eq (Nat.add_comm k c)) (Nat.le_trans (Nat.add_le_add (Nat.le_trans hc (Nat.mul_le_mul_right 2 h)) hk) (Nat.le_add_right (x*3) x))
theorem JG{x k k':Nat}(h:4≤x)(hk:k≤x)(hk':k'≤x):k'+k+3≤x*4:=
 Nat.le_trans (Nat.add_le_add (Nat.le_trans (Nat.add_le_add hk' hk) (Nat.le_of_eq (Nat.mul_two x).symm)) (Nat.le_trans (aQ rfl:3≤4*2) (Nat.mul_le_mul_right 2 h))) (Nat.le_of_eq (Nat.mul_add x 2 2).symm)
theorem Xh{p:List (Nat×Txt×Nat)}{i m:Nat}(h:bM p i= .nest m):m<4:=by
 induction hg:p[i]? using Option.casesOn with
 | none=>exact nomatch (rE hg).symm.trans h
 | some e=>
  obtain ⟨k,v,n⟩:=e
  by_cases k6:k=6
  ·subst k6;(injection ((uR hg).symm.trans h) with zh;subst zh);exact Nat.mod_lt _ (Nat.zero_lt_succ 3)
  ·by_cases c0:iG k n=0
   ·exact nomatch (uT hg k6 c0).symm.trans h
   ·exact nomatch (uU hg k6 c0).symm.trans h
theorem Xj{p:List (Nat×Txt×Nat)}(hp:rM p){M:Nat}(ih:∀(sh:aN) (i:Nat) (e:Option aK) (s:List Txt) (ss:List (List Txt)) (w:Wd),dj p sh i e s ss w→mu w.log.length i<M→∃r w',vg p sh i e s ss w r w' (4 ^ M))
  {sh:aN} {i:Nat} {s:List Txt} {ss:List (List Txt)} {w:Wd} {f:aK} (g:bZ sh) (hil:i<sh.items.length) (hs:s.length≤24) (hss:ss.length≤9) (hsl:ss.length≤w.log.length) (hph:fK w.log.length 0≤100)
  (hf:bO f) (hfi:f.info.length≤300*(10 - ss.length)+100) (hc0:f.code≠0) (hl9:w.log.length≤9) (hM:mu w.log.length 0<M):∃r w',JF p sh i s ss w f r w' (4 ^ M):=by
 have hfi2:=Nat.le_trans hfi (Nat.add_le_add_right (Nat.mul_le_mul_left 300 (Nat.sub_le 10 ss.length)) 100)
 obtain ⟨hf',hfi'⟩:=Xf g hil hf (Nat.le_trans hfi2 (aQ rfl))
 have nc:=rI f (bG sh i)
 have hs9:s.length≤900:=Nat.le_trans hs (aQ rfl)
 have hs1:s.length≤1000:=Nat.le_trans hs (aQ rfl)
 have hss1:ss.length≤1000:=Nat.le_trans hss (aQ rfl)
 induction ht:dW sh i f.code using Option.casesOn with
 | none=>
  refine ⟨.flt (bT f (bG sh i)),w,⟨0,Nat.zero_le _,Wu g hil hf hf' hs1 hss1 ht⟩,WY g hil hf hf' hs9 hc0 ht,Nat.le_refl _,zg _ _,fun f1 h1=> ?_⟩
  (injection h1 with zh;subst zh)
  refine ⟨hf', ?_,by rw [nc.1];exact hc0,hl9⟩
  rw [Nat.succ_sub (Nat.le_trans hss (aQ rfl)),Nat.mul_succ]
  exact Nat.le_trans hfi' (Nat.le_trans (Nat.add_le_add_right hfi 200) (Nat.le_of_eq (Nat.add_assoc _ 100 200)))
 | some r=>
  obtain ⟨hrm,_⟩:=uX ht
  obtain ⟨_,_,hbt,hdep,hbe,hct⟩:=g.rng r hrm
  have hj:(cO r f.code).1<sh.items.length∧((cO r f.code).2=true→r.be=true∧(cO r f.code).1=r.bt):=by
   by_cases h:r.ca=false∧f.code=4
   ·unfold cO
    rw [if_pos h]
    refine ⟨?_,fun e=>nomatch e⟩
    induction h:r.ct using Option.casesOn with
    | none=>exact g.n1
    | some t=>exact hct t h
   ·rw [pC h]
    exact ⟨hbt,fun e=>⟨e,rfl⟩⟩
  have iv:dj p sh (cO r f.code).1 (if (cO r f.code).2 then some (bT f (bG sh i)) else none) (s.take r.dep) ss {w with book:=if r.ca then iJ w.book (bT f (bG sh i)) else w.book}:=
   ⟨g,hp,Nat.le_of_lt hj.1,Nat.le_trans (List.length_take_le _ _) (Nat.le_trans hdep (Nat.le_add_right _ _)),Or.inl hj.1,hss,hsl,Nat.le_trans (vm _ (Nat.zero_le _)) hph,fun f1 h1=>by
    obtain ⟨e1,e2⟩:=rN h1
    obtain ⟨e3,e4⟩:=hj.2 e1
    subst e2
    rw [e4]
    exact ⟨hf',(hbe e3).2⟩⟩
  obtain ⟨res,w',⟨k,hk,hmac⟩,hlaw,en⟩:=ih _ _ _ _ _ _ iv (Nat.lt_of_le_of_lt (W5 _ (Nat.zero_le _)) hM)
  exact ⟨res,w',⟨k,hk,Wv g hil hf hf' hs1 hss1 ht hmac⟩,W0 g hil hf hf' hs9 hc0 ht hlaw,en.up (Nat.le_refl _) (vm _ (Nat.zero_le _))⟩
theorem Xk{p:List (Nat×Txt×Nat)}(hp:rM p):∀(M:Nat) (sh:aN) (i:Nat) (e:Option aK) (s:List Txt) (ss:List (List Txt)) (w:Wd),dj p sh i e s ss w→mu w.log.length i<M→∃r w',vg p sh i e s ss w r w' (4 ^ M):=by
 intro M
 induction M with
 | zero=>intro sh i e s ss w _ h;exact absurd h (Nat.not_lt_zero _)
 | succ M ih=>
  intro sh i e s ss w iv hM
  have g:=iv.g
  obtain ⟨n1,n2,n3,n4,n5,n6⟩:=iv.nums
  by_cases hlen:i=sh.items.length
  ·subst hlen
   have hne:s≠ []:=iv.last.elim (fun h=>absurd h (Nat.lt_irrefl _)) id
   obtain ⟨s0,t,rfl⟩:∃s0 t,s=s0++ [t]:=⟨s.dropLast,s.getLast hne,(List.dropLast_concat_getLast hne).symm⟩
   exact ⟨.ok t,w,⟨1,Nat.one_le_pow _ _ (Nat.zero_lt_succ 3),Ww iv⟩,W3 iv,Nat.le_refl _,zg _ _,fun f h=>nomatch h⟩
  ·have hil:i<sh.items.length:=Nat.lt_of_le_of_ne iv.hi hlen
   have hi8:i<8:=Nat.lt_of_le_of_lt n1 (Nat.lt_succ_self 7)
   have lt:∀{l j:Nat},mu l j<mu w.log.length i→mu l j<M:=fun h=>Nat.lt_of_lt_of_le h (Nat.le_of_lt_succ hM)
   have p4:=Xg (Nat.lt_of_le_of_lt (Nat.zero_le _) (lt (Jt _ hi8)))
   have hi:=List.getElem?_eq_getElem hil
   have hs1:∀t:Txt,(s++ [t]).length≤3+3*(i+1):=fun t=>Nat.le_trans (aC iv.hs (lk 1 rfl)) (Nat.add_le_add_left (show 1≤3 from aQ rfl) (3+3*i))
   by_cases hnm:sh.items[i]= []
   ·rw [hnm] at hi
    have iv':dj p sh (i+1) none (s++nD e) ss {w with cnt:=w.cnt+lV e}:=
     ⟨g,hp,hil,aC (n:=3) (m:=3+3*i) iv.hs (Nat.le_refl 3),Or.inr fun h=>(nomatch (List.append_eq_nil_iff.1 h).2),iv.hss,iv.hsl,Nat.le_trans (vm _ (Nat.le_succ i)) iv.ph,fun f h=>nomatch h⟩
    obtain ⟨r,w',⟨k,hk,hmac⟩,hlaw,en⟩:=ih _ _ _ _ _ _ iv' (lt (Jt _ hi8))
    exact ⟨r,w',⟨_,zA p4 (by induction e using Option.casesOn<;>exact aQ rfl) hk,Wx iv hi hmac⟩,W4 iv hi hlaw,en.up (Nat.le_refl _) (vm _ (Nat.le_succ i))⟩
   ·have he:e=none:=by
     induction e using Option.casesOn with
     | none=>rfl
     | some f=>exact absurd (Option.some.inj (hi.symm.trans (iv.he f rfl).2)) hnm
    subst he
    have el:(di w sh.items[i] (ss++ [s])).log.length=w.log.length+1:=List.length_append
    have fltCase:∀(f:aK) (w2:Wd),bO f→f.info.length≤300*(10 - ss.length)+100→f.code≠0→w2.log.length≤9→w.log.length<w2.log.length→w.log.length<9→(∃r w',JF p sh i s ss w2 f r w' (4 ^ M))∧fK w2.log.length 0≤fK w.log.length i:=fun f w2 hf hfi hc0 hl9 hl2 hl=>
     have ar:=zq _ hl _ (Nat.lt_succ_of_le hl9) hl2 _ hi8
     ⟨Xj hp ih g hil n2 n3 (Nat.le_trans iv.hsl (Nat.le_of_lt hl2)) (Nat.le_trans ar.1 iv.ph) hf hfi hc0 hl9 (lt ar.2),ar.1⟩
    induction hc:bM p w.log.length using CR.casesOn with
    | val t=>
     have ar:=Ju _ (Nat.lt_succ_of_le n4) _ hi8
     have iv':dj p sh (i+1) none (s++ [t]) ss (di w sh.items[i] (ss++ [s])):=
      ⟨g,hp,hil,hs1 t,Or.inr fun h=>(nomatch (List.append_eq_nil_iff.1 h).2),iv.hss,Nat.le_trans iv.hsl (by rw [el];exact Nat.le_succ _),by rw [el];exact Nat.le_trans ar.1 iv.ph,fun f h=>nomatch h⟩
     obtain ⟨r,w',⟨k,hk,hmac⟩,hlaw,en⟩:=ih _ _ _ _ _ _ iv' (by rw [el];exact lt ar.2)
     rw [el] at en
     exact ⟨r,w',⟨_,zA p4 (aQ rfl) hk,Wy iv hi hnm hc hmac⟩,W8 iv hi hnm hc hlaw,en.up (by rw [el];exact Nat.le_succ _) ar.1⟩
    | flt f=>
     obtain ⟨hf,hfi,hc0,hl9⟩:=Xe hp hc
     have h1:1≤10 - ss.length:=Nat.sub_pos_of_lt (Nat.lt_succ_of_le n3)
     obtain ⟨⟨r,w',⟨k,hk,hmac⟩,hlaw,en⟩,ar⟩:=fltCase f (di w sh.items[i] (ss++ [s])) hf (Nat.le_trans hfi (Nat.le_trans (Nat.mul_le_mul_left 300 h1) (Nat.le_add_right _ _))) hc0 (by rw [el];exact hl9) (by rw [el];exact Nat.lt_succ_self _) hl9
     exact ⟨r,w',⟨_,zA p4 (aQ rfl) hk,Wz iv hi hnm hc hmac⟩,W9 iv hi hnm hc hlaw,en.up (by rw [el];exact Nat.le_succ _) ar⟩
    | nest m=>
     have hlt:=vf (p:=p) (l:=w.log.length) fun t ht=>nomatch hc.symm.trans ht
     rw [n5] at hlt
     have m4:m<4:=Xh hc
     have gi:=Ib m4
     have ar0:=zq _ hlt (w.log.length+1) (Nat.succ_lt_succ hlt) (Nat.le_refl _) _ hi8
     have els:(ss++ [s]).length=ss.length+1:=List.length_append
     have iv1:dj p (dU m) 0 none [] (ss++ [s]) (di w sh.items[i] (ss++ [s])):=
      ⟨gi,hp,Nat.zero_le _,Nat.zero_le _,Or.inl gi.n1,by rw [els];exact Nat.le_trans (Nat.succ_le_succ iv.hsl) hlt,by rw [el,els];exact Nat.succ_le_succ iv.hsl,by rw [el];exact Nat.le_trans ar0.1 iv.ph,fun f h=>nomatch h⟩
     obtain ⟨r1,w2,⟨k1,hk1,hmac1⟩,hlaw1,en1⟩:=ih _ _ _ _ _ _ iv1 (by rw [el];exact lt ar0.2)
     rw [el] at en1
     have lo:=en1.lo
     rw [el] at lo
     induction r1 using Res.casesOn with
     | ok t=>
      have h100:w2.log.length≤100:=Nat.le_trans en1.hi (Nat.le_trans ar0.1 iv.ph)
      have ar:=W6 _ hlt _ (Nat.lt_succ_of_le h100) ⟨lo,en1.hi⟩ _ hi8
      have iv':dj p sh (i+1) none (s++ [t]) ss w2:=
       ⟨g,hp,hil,hs1 t,Or.inr fun h=>(nomatch (List.append_eq_nil_iff.1 h).2),iv.hss,Nat.le_trans iv.hsl (Nat.le_of_lt lo),Nat.le_trans ar.1 iv.ph,fun f h=>nomatch h⟩
      obtain ⟨r,w',⟨k,hk,hmac⟩,hlaw,en⟩:=ih _ _ _ _ _ _ iv' (lt ar.2)
      exact ⟨r,w',⟨_,JG p4 hk1 hk,Jg iv hi hnm hc hmac1 hmac⟩,Jy iv hi hnm hc hlaw1 lo hlaw,en.up (Nat.le_of_lt lo) ar.1⟩
     | flt f=>
      obtain ⟨hf,hfi,hc0,hl9⟩:=en1.ft f rfl
      rw [els,Nat.succ_sub_succ 10] at hfi
      obtain ⟨⟨r,w',⟨k,hk,hmac⟩,hlaw,en⟩,ar⟩:=fltCase f w2 hf (Nat.le_trans hfi (Nat.le_add_right _ _)) hc0 hl9 lo hlt
      exact ⟨r,w',⟨_,JG p4 hk1 hk,Jg iv hi hnm hc hmac1 hmac⟩,Jy iv hi hnm hc hlaw1 lo hlaw,en.up (Nat.le_of_lt lo) ar⟩
theorem Xl{N d j:Nat}{c:MC}{K:QS}{E:ES}{cnt sp:Nat}{log:List (Txt×List (List Txt))}{es cache:List (V×V)}{R:List (Nat×O)}{F H:MH}{t:Txt}
  (C0:aj F (base c cnt sp log [] es cache++R) H)
  (h:∀H',aj F ((c.m,eY c.h c.ops c.al c.bk cnt t)::((base c cnt sp log [] es cache).drop 1++R)) H'→K .next [("self", .ref c.m),("host", .ref c.h)] H'):rJ N d c K E (j+1) t H:=by
 unfold rJ
 refine kf wJ rfl rfl fun C hC=> ?_
 refine wg (.o (C0.at 0 rfl) (.o aq (.o (C0.set0.at 2 rfl) (.o aq .n)))) rfl ?_
 have C2:=(C0.set 0 (eY c.h c.ops c.al c.bk cnt []) rfl).set 0 (eY c.h c.ops c.al c.bk cnt t) rfl
 exact Wb (C2.at 0 rfl) (C2.at 2 rfl) (h _ C2)
theorem Xm{N d j n x:Nat}{c:MC}{K:QS}{E:ES}{cnt sp:Nat}{log:List (Txt×List (List Txt))}{es cache:List (V×V)}{R:List (Nat×O)}{F H:MH}{f:aK}{ex:Nat}{tl:Loc}
  (C0:aj F ((x,cG f ex)::(base c cnt sp log [] es cache++R)) H)
  (h:E x [("self", .ref c.m),("host", .ref c.h)] H):iM N d c K E j x (n+1) (kJ c.m x tl) H:=by
 unfold iM
 have key:∀C,C=au tab N (d+12)→eO C N (some x) rG rH (iU fun y H3=>E y [("self", .ref c.m),("host", .ref c.h)] H3) (n+1) (kJ c.m x tl) H (u0 N d c K E j x):=fun C hC=>by
  refine kl hC ?_
  refine wg (.o (C0.at 1 rfl) (.o (C0.at 3 rfl) .n)) rfl ?_
  unfold u0
  rw [←hC]
  show (bA C true N (some x) [.raise (.loc "raised")] (kJ c.m x tl) H (cz fun zz H3=>cC N d c K E j H3) (cJ fun y H3=>E y [("self", .ref c.m),("host", .ref c.h)] H3)).P
  refine wg (.o (C0.at 0 rfl) (.p rfl .n)) rfl ?_
  exact h
 exact key _ rfl
noncomputable def rest(c:MC)(w:Wd)(t:Txt)(acts:List V)(es cache:List (V×V)):List (Nat×O):=
 [(c.m,eY c.h c.ops c.al c.bk w.cnt t),(c.h,fG c.to c.il 0 w.log.length c.vd c.cm c.fi),(c.al, .list acts),(c.lg, .list (w.log.map bR)),(c.vd, .dict es),(c.bk, .dict cache)]
noncomputable def w0:Wd:=⟨[],none,0⟩
theorem Xn{N d:Nat}{c:MC}{p:List (Nat×Txt×Nat)}{sh:aN}{r:Res}{w':Wd}{F H:MH}{Q:Q1}{E:E1}{a cd n st sl ea:Nat}{cv:V}{nt:Txt}{B:Nat}(hb:vg p sh 0 none [] [] w0 r w' B)(hN:200000≤N)
  (hB:B+1<N) (fz:cW c p F)
  (C0:aj F (rest c w0 [] [.ref a] [] []++ [(a,aY cd n 0 st sl ea cv),(st,aZ [])]) H) (hcd:dz F cd sh) (hnn:F n=some (gH nt))
  (hok:∀t,r= .ok t→∀F' H' es vc l,Le F F'→dH w'.book es vc→aj F' (rest c w' t [] es (cA l)++vc) H'→Q (.tup [.str [100,111,110,101], .str t]) H')
  (hflt:∀f,r= .flt f→∀F' H' es vc l x ex,Le F F'→dH w'.book es vc→F' ex=some (cB f.ex)→aj F' ((x,cG f ex)::(rest c w' [] [] es (cA l)++vc)) H'→E x H'):
  au tab N (d+15) none (.con (.ref 293)) [.ref c.m] H Q E:=by
 obtain ⟨k,hkB,hmac⟩:=hb.mac
 have hk:k+1<N:=Nat.lt_of_le_of_lt (Nat.succ_le_succ hkB) hB
 obtain ⟨j,hj⟩:=iQ (Nat.le_of_lt hk)
 have hj':N=j+1+k:=hj.trans ((congrArg (j+ ·) (Nat.add_comm k 1)).trans (Nat.add_assoc j 1 k).symm)
 have C1:aj F (base c 0 0 [] [.ref a] [] (cA [])++(((a,aY cd n 0 st sl ea cv)::(st,aZ []):: [])++ [])) (H.upd c.h (fG c.to c.il 1 0 c.vd c.cm c.fi)):=C0.set 1 _ rfl
 have hrun:∀C,C=au tab N (d+14)→∀K E,pF N d c K E F [] [] w' (j+1) r→eO C N none uY uZ E N [("self", .ref c.m),("host", .ref c.h)] (H.upd c.h (fG c.to c.il 1 0 c.vd c.cm c.fi)) K:=fun C hC K E post=>by
  subst hC
  have:=hmac N d c K E [] [] (j+1) F _ hN fz dh.nil ⟨a,cd,n,st,sl,ea,cv,nt,[],[],[],C1,hcd,hnn,dH.no,fun p m=>(nomatch m),Nat.zero_le _,fun f e=>(nomatch e)⟩ post
  unfold cC at this
  rwa [←hj'] at this
 refine kf Br rfl rfl fun C hC=> ?_
 refine wg (.o (C0.at 0 rfl) (.o (C0.at 1 rfl) (.o (C0.at 1 rfl) (.o aq (.o aq .n))))) rfl ?_
 refine hrun C hC _ _ ?_
 clear hrun
 induction r using Res.casesOn with
 | ok t=>
  intro F' H' le hdone
  obtain ⟨es,vc,l,C2,hbk,hca,hcl⟩:=hdone
  refine Xl C2 ?_
  intro H3 C3
  refine wg (.o (C3.at 1 rfl) (.o (C3.at 1 rfl) (.o ((C3.set 1 _ rfl).at 0 rfl) (.o ((C3.set 1 _ rfl).at 0 rfl) .n)))) rfl ?_
  exact hok t rfl F' _ es vc l le hbk (C3.set 1 _ rfl)
 | flt f=>
  intro F' H' x tl n' le hn hfl
  obtain ⟨es,vc,l,ex,C2,hex,hbk,hca,hcl⟩:=hfl
  obtain ⟨n',rfl⟩:=iQ hn
  refine Xm C2 ?_
  refine wg (.o (C2.at 2 rfl) (.o (C2.at 2 rfl) .n)) rfl ?_
  exact hflt f rfl F' _ es vc l x ex le hbk hex (C2.set 2 _ rfl)
noncomputable def cells(c:MC)(w:Wd)(t:Txt)(es:List (V×V)):List (Nat×O):=
 [(c.m,eY c.h c.ops c.al c.bk w.cnt t),(c.h,fG c.to c.il 0 w.log.length c.vd c.cm c.fi),(c.lg, .list (w.log.map bR)),(c.vd, .dict es)]
theorem Xo{α:Type}(A B C D:List α):(A++(B++(C++D))).Perm (C++(A++(D++B))):=by
 refine (List.Perm.append_left A (List.perm_append_comm (l₁:=B) (l₂:=C++D))).trans ?_
 rw [List.append_assoc]
 exact List.perm_append_comm_assoc A C (D++B)
theorem cW.al{c:MC}{p:List (Nat×Txt×Nat)}{F:MH}(h:cW c p F)(x:Nat):cW {c with al:=x} p F:=⟨h.ops,h.cm,h.hl,h.pl⟩
theorem Xp{N d:Nat}{c:MC}{p:List (Nat×Txt×Nat)}{sh:aN}{r:Res}{w':Wd}{F H:MH}{Q:Q1}{E:E1}{cd:Nat}{B:Nat}(hb:vg p sh 0 none [] [] w0 r w' B)(hN:200000≤N)
  (hB:B+1<N) (fz:cW c p F) (hal:F c.al=some (.list []))
  (C0:aj F (cells c w0 [] []++ [(c.bk, .dict [])]) H) (hcd:dz F cd sh)
  (hok:∀t,r= .ok t→∀F' H' es vc,Le F F'→dH w'.book es vc→aj F' (cells c w' t es++vc) H'→Q (.str t) H')
  (hflt:∀f,r= .flt f→∀F' H' es vc x ex,Le F F'→dH w'.book es vc→F' ex=some (cB f.ex)→aj F' ((x,cG f ex)::(cells c w' [] es++vc)) H'→E x H'):
  au tab N (d+17) none (.con (.ref 307)) [.ref c.m, .ref cd] H Q E:=by
 refine kf Bs rfl rfl fun C hC=> ?_
 obtain ⟨rr,rg,nn,s,q1,_,_,q4,_⟩:=id hcd
 refine wg (.o (C0.at 0 rfl) (.o (C0.at 1 rfl) (.o (C0.at 0 rfl) .n))) rfl ?_
 refine cu hC (HJ (d:=d+14) ?_)
 intro ne H1 hne0 le1 hne
 have C1:=C0.frzAll le1
 refine wg .n rfl ?_
 refine cu hC (HN (d:=d+13) (C1.1.fr _ _ (C1.2.1 _ _ q1)) (C1.1.fr _ _ (C1.2.1 _ _ q4)) ?_)
 intro a st sl ea H2 ha hst hns le2 ha2 hst2
 have C2:=C1.1.new2 le2 ha hst hns ha2 hst2
 have fne:=C1.2.2 _ _ (bf.mk hne0 hne)
 have le01:=C1.2.1
 generalize jg F H H1=F1 at C1 C2 fne le01
 refine wg .n rfl ?_
 intro al hal2
 have C3:=C2.new (.list [.ref a]) hal2
 refine wg (.o (C3.at 3 rfl) (.o aq .n)) rfl ?_
 have C4:aj F1 (rest {c with al:=al} w0 [] [.ref a] [] []++ [(a,aY cd ne 0 st sl ea (.tup [.int 0, .str [], .none])),(st,aZ [])]) ((H2.upd al (.list [.ref a])).upd c.m (eY c.h c.ops al c.bk 0 [])):=
  aj.perm (C3.set 3 (eY c.h c.ops al c.bk 0 []) rfl) (Xo (α:=Nat×O) [(al,O.list [V.ref a])] [(a,aY cd ne 0 st sl ea (V.tup [V.int 0,V.str [],V.none])),(st,aZ [])] [(c.m,eY c.h c.ops al c.bk 0 []),(c.h,fG c.to c.il 0 0 c.vd c.cm c.fi)] [(c.lg,O.list []),(c.vd,O.dict []),(c.bk,O.dict [])])
 refine cu hC (Xn (d:=d+1) (c:={c with al:=al}) hb hN hB ((fz.mono le01).al al) C4 (hcd.mono le01) fne ?_ ?_)
 ·intro t ht F5 H5 es vc l le5 hbk C5
  refine wg (.o (C5.at 0 rfl) (.o aq (.o aq (.o (C5.set0.set0.at 1 rfl) .n)))) rfl ?_
  refine hok t ht F5 _ es vc (le01.trans le5) hbk ((((C5.set 0 (eY c.h c.ops c.al c.bk w'.cnt t) rfl).set 0 (eY c.h c.ops c.al c.bk w'.cnt t) rfl).set 1 (fG c.to c.il 0 w'.log.length c.vd c.cm c.fi) rfl).sub ?_)
  exact .cons_cons _ (.cons_cons _ (.cons _ (.cons_cons _ (.cons_cons _ (.cons _ (List.Sublist.refl _))))))
 ·intro f hfl F5 H5 es vc l x ex le5 hbk hex C5
  refine wg (.o (C5.at 1 rfl) (.o aq (.o aq (.o (((C5.set 1 _ rfl).set 1 _ rfl).at 2 rfl) .n)))) rfl ?_
  refine hflt f hfl F5 _ es vc x ex (le01.trans le5) hbk hex ((((C5.set 1 (eY c.h c.ops c.al c.bk w'.cnt []) rfl).set 1 (eY c.h c.ops c.al c.bk w'.cnt []) rfl).set 2 (fG c.to c.il 0 w'.log.length c.vd c.cm c.fi) rfl).sub ?_)
  exact .cons_cons _ (.cons_cons _ (.cons_cons _ (.cons _ (.cons_cons _ (.cons_cons _ (.cons _ (List.Sublist.refl _)))))))
theorem JH{N d:Nat}{hd:Option Nat}{s0 k:Nat}{xs:List Int}{H:MH}{Q:Q1}{E:E1}(hs:Z9.lst s0=some xs)(hl:xs.length≤63)(hQ:∀v:Int,Q (.int v) H):
  au tab N (d+2) hd (.con (.ref 841)) [.con (.ref s0), .int (k:Nat)] H Q E:=by
 refine kf CJ rfl rfl fun C hC=> ?_
 refine wg .n rfl ?_
 refine aa.mk (x:=xs) hs ⟨fY hl rfl, ?_⟩
 by_cases hp:k<xs.length
 ·have g2:(k:Int)<(xs.length:Int):=fZ hp
  have g3:vU tab (.con (.ref s0)) (.int (k:Nat))=some (.int xs[k]):=by
   show (Z9.lst s0).bind _=_
   rw [hs]
   show (cP xs.length (k:Int)).bind _=_
   rw [pl (T9 (fY hl rfl)),Option.bind_some,List.getElem?_eq_getElem hp];rfl
  refine wg (.t (aL g2) (.v rfl (.v rfl (.v g3 .n)))) rfl ?_
  exact hQ _
 ·have g2: ¬(k:Int)<(xs.length:Int):=iC hp
  refine wg (.f (bc g2) .n) rfl ?_
  exact hQ 0
structure kY(r:Rng):Prop where
 lh:r.lo≤r.hi
 h7:r.hi<7
 b7:r.bt<7
 d3:r.dep≤3
 be:r.be=true→r.ca=true∧(r.bt=2∨r.bt=5)
 ct:∀t,r.ct=some t→t<7
theorem Xq{a:Int}{m:Nat}(h:0≤a)(h':a<(m:Nat)):∃n:Nat,a=(n:Int)∧n<m:=by
 obtain ⟨n,rfl⟩:=Int.eq_ofNat_of_zero_le h
 exact ⟨n,rfl,Int.ofNat_lt.1 h'⟩
theorem fm(a:Int)(m:Nat)(h:(0:Int)<(m:Nat)):∃n:Nat,a.fmod (m:Nat)=(n:Int)∧n<m:=Xq (Int.fmod_nonneg_of_pos a h) (Int.fmod_lt_of_pos a h)
theorem Xr(a:Int):a.fmod 2=0∨a.fmod 2=1:=by
 obtain ⟨n,e,h⟩:=fm a 2 (by decide)
 rw [show a.fmod 2=(n:Int) from e]
 exact gk h (.inl rfl) fun n h=>gk h (.inr rfl) fun n h=>absurd h (Nat.not_lt_zero _)
theorem vq{N d:Nat}{hd:Option Nat}{lo hi nb:Int}{H:MH}{Q:Q1}{E:E1}(h0:0≤lo)(h1:lo≤hi)(h2:hi<7)
  (hQ:∀r H',kY r→Le H H'→Q (bH r) H'):
  au tab N (d+1) hd (.con (.ref 848)) [.int (nb.fmod 2), .int lo, .int hi, .int nb] H Q E:=by
 obtain ⟨hi,rfl⟩:=Int.eq_ofNat_of_zero_le (Int.le_trans h0 h1)
 obtain ⟨lo,rfl⟩:=Int.eq_ofNat_of_zero_le h0
 have fin:∀(ca:Bool) (a:Int) (bt:Nat) (be:Bool) (cv:V) (ct:Option Nat) (l o:Bool) (H1:MH),a=(bt:Nat)→bt<7→(be=true→ca=true∧(bt=2∨bt=5))→cv=kI ct→(∀t,ct=some t→t<7)→Le H H1→
   Q (.tup [.str (iH ca), .int (lo:Nat), .int (hi:Nat), .tup [.int a, .bool be],cv, .int ((nb.fdiv 20).fmod 4), .bool l, .bool o]) H1:=fun ca a bt be cv ct l o H1 ea hb hbe ec hct le=>by
  obtain ⟨e,he,he4⟩:=fm (nb.fdiv 20) 4 (by decide)
  rw [show (nb.fdiv 20).fmod 4=_ from he,ea,ec]
  exact hQ ⟨ca,lo,hi,bt,be,ct,e,l,o⟩ H1 ⟨Int.ofNat_le.1 h1,Int.ofNat_lt.1 h2,hb,Nat.le_of_lt_succ he4,hbe,hct⟩ le
 have no:∀{p:Prop},false=true→p:=fun e=>nomatch e
 refine k0 CK rfl rfl fun C hC=> ?_
 rcases Xr nb with h | h
 ·have k0: ¬nb.fmod 2=1:=fun e=>nomatch h.symm.trans e
  have pk:cP 2 (nb.fmod 2)=some 0:=by rw [h];rfl
  obtain ⟨b,hb,hb7⟩:=fm (nb.fdiv 2) 7 (by decide)
  obtain ⟨t,ht,ht8⟩:=fm (nb.fdiv 80) 8 (by decide)
  by_cases t7:t<7
  ·have g:(nb.fdiv 80).fmod 8<7:=by rw [show (nb.fdiv 80).fmod 8=_ from ht];exact fZ t7
   refine wg (.f (aM k0) (.t rfl (.t rfl (.t rfl (.t rfl (.t (aL g) .n)))))) rfl ?_
   intro z hz
   refine wg (.o aq (.k pk .n)) rfl ?_
   exact fin false _ b false _ (some t) _ _ _ hb hb7 no (by rw [show (nb.fdiv 80).fmod 8=_ from ht];rfl) (fun zz e=>by obtain rfl:=Option.some.inj e;exact t7) (Le.new _ hz)
  ·have g: ¬(nb.fdiv 80).fmod 8<7:=by rw [show (nb.fdiv 80).fmod 8=_ from ht];exact iC t7
   refine wg (.f (aM k0) (.t rfl (.t rfl (.t rfl (.t rfl (.f (bc g) .n)))))) rfl ?_
   intro z hz
   refine wg (.o aq (.k pk .n)) rfl ?_
   exact fin false _ b false _ none _ _ _ hb hb7 no rfl (fun zz e=>nomatch e) (Le.new _ hz)
 ·have pk:cP 2 (nb.fmod 2)=some 1:=by rw [h];rfl
  obtain ⟨t,ht,ht9⟩:=fm (nb.fdiv 2) 9 (by decide)
  by_cases t7:t<7
  ·have g:(nb.fdiv 2).fmod 9<7:=by rw [show (nb.fdiv 2).fmod 9=_ from ht];exact fZ t7
   refine wg (.t (aR h) (.t rfl (.t rfl (.t (aL g) .n)))) rfl ?_
   intro z hz
   refine wg (.o aq (.k pk .n)) rfl ?_
   exact fin true _ t false _ none _ _ _ ht t7 no rfl (fun zz e=>nomatch e) (Le.new _ hz)
  ·have g: ¬(nb.fdiv 2).fmod 9<7:=by rw [show (nb.fdiv 2).fmod 9=_ from ht];exact iC t7
   have t78:t=7∨t=8:=(Nat.eq_or_lt_of_le (Nat.le_of_lt_succ ht9)).elim Or.inr fun h=>Or.inl (Nat.le_antisymm (Nat.le_of_lt_succ h) (Nat.le_of_not_lt t7))
   rcases t78 with rfl | rfl
   ·have p7:cP 2 ((nb.fdiv 2).fmod 9 - 7)=some 0:=by rw [show (nb.fdiv 2).fmod 9=_ from ht];rfl
    refine wg (.t (aR h) (.t rfl (.t rfl (.f (bc g) .n)))) rfl ?_
    intro y hy
    refine wg (.o aq (.k p7 .n)) rfl ?_
    intro z hz
    refine wg (.o aq (.k pk .n)) rfl ?_
    exact fin true _ 2 true _ none _ _ _ rfl (by decide) (fun zz=>⟨rfl,Or.inl rfl⟩) rfl (fun zz e=>nomatch e) ((Le.new _ hy).trans (Le.new _ hz))
   ·have p7:cP 2 ((nb.fdiv 2).fmod 9 - 7)=some 1:=by rw [show (nb.fdiv 2).fmod 9=_ from ht];rfl
    refine wg (.t (aR h) (.t rfl (.t rfl (.f (bc g) .n)))) rfl ?_
    intro y hy
    refine wg (.o aq (.k p7 .n)) rfl ?_
    intro z hz
    refine wg (.o aq (.k pk .n)) rfl ?_
    exact fin true _ 5 true _ none _ _ _ rfl (by decide) (fun zz=>⟨rfl,Or.inr rfl⟩) rfl (fun zz e=>nomatch e) ((Le.new _ hy).trans (Le.new _ hz))
theorem zB{α:Type}{mk:α→V}{C:aO}{hd:Option Nat}{elt:X}{src:MH→Prop}{loc:Loc}{H:MH}{Q:List V→MH→Prop}{m:Nat}(hs:src H)
  (step:∀(k:Nat) (rest acc:List V),k<m→(∀x:α,iw C hd elt "k" [] src loc rest (acc++ [mk x]) H Q)→iw C hd elt "k" [] src loc (V.int k::rest) acc H Q):
  ∀(ks:List Nat) (acc:List V),(∀k∈ks,k<m)→(∀vs:List α,vs.length=ks.length→Q (acc++vs.map mk) H)→iw C hd elt "k" [] src loc (ks.map fun k:Nat=>V.int (k:Int)) acc H Q:=by
 intro ks
 induction ks with
 | nil=>exact fun acc zz hQ=>uv hs (List.append_nil acc▸hQ [] rfl)
 | cons k ks ih=>
  refine fun acc hk hQ=>step k _ acc (hk k List.mem_cons_self) fun x=>ih _ (fun j m=>hk j (List.mem_cons_of_mem _ m)) fun vs hvs=> ?_
  rw [List.append_assoc]
  exact hQ (x::vs) (congrArg Nat.succ hvs)
theorem vy{n:Nat}:∀k∈List.range n,k<n:=fun zz m=>List.mem_range.1 m
theorem Xu{a b:Int}{H:MH}{Q:Q1}(h:Q (.int (max a b)) H):bP none "max" [.int a, .int b] H Q:=by
 rw [Gp]
 exact ⟨rfl,rfl,h⟩
theorem Xv{y:Int}{n:Nat}{H:MH}{Q:Q1}(e:y=(n:Nat))(h1:1≤n)(h2:n≤200)(hQ:∀t:Txt,t.all dg=true→t.length≤200→Q (.str t) H):mW .mul (.str [109]) (.int y) H Q:=by
 rw [oV]
 subst e
 have key:∀n:Nat,((List.replicate n ([109]:Txt)).flatten).all dg=true∧((List.replicate n ([109]:Txt)).flatten).length=n:=fun n=>by
  induction n with
  | zero=>exact ⟨rfl,rfl⟩
  | succ n ih=>
   rw [List.replicate_succ,List.flatten_cons,List.all_append,List.length_append,ih.1,ih.2]
   exact ⟨by decide,Nat.add_comm 1 n⟩
 exact ⟨rfl,j9 h1,Int.le_trans (j9 h2) (by decide),rfl,hQ _ (key n).1 (Nat.le_trans (Nat.le_of_eq (key n).2) h2)⟩
noncomputable def lX:List Txt:= [[48],[49],[],[50],[51],[],[52]]
theorem Xw{rs:List Rng}{ow:List Bool}{up:Nat}{mn:Txt}(h1:∀r∈rs,kY r)(h2:rs.length≤4)(h3:ow.length=7)(h4:up≤7)(h5:mn.all dg=true)(h6:mn.length≤200):bZ ⟨lX,rs,ow,up,mn⟩:=
 ⟨(by decide:1≤lX.length),(by decide:lX.length≤7),h3,h4,⟨h5,h6⟩,(by decide:∀t∈lX,t.all dg=true∧t.length≤5),h2,fun r m=>have h:=h1 r m
  ⟨h.lh,h.h7,h.b7,h.d3,fun hb=>⟨(h.be hb).1,by rcases (h.be hb).2 with e | e<;>rw [e]<;>rfl⟩,h.ct⟩⟩
theorem Xx{vs:List Int}(h:vs.length=6):∃a b c d e f,vs= [a,b,c,d,e,f]:=by
 refine jn h fun a vs h=>jn h fun b vs h=>jn h fun c vs h=>jn h fun d vs h=>jn h fun e vs h=>jn h fun f vs h=>zR h ?_
 exact ⟨a,b,c,d,e,f,rfl⟩
theorem Xy{vs:List Int}(h:vs.length=4):∃a b c d,vs= [a,b,c,d]:=by
 refine jn h fun a vs h=>jn h fun b vs h=>jn h fun c vs h=>jn h fun d vs h=>zR h ?_
 exact ⟨a,b,c,d,rfl⟩
noncomputable def rQ(s0:Nat)(fi nb:Int)(z rl bs dr:Nat)(lo hi low high least most:Int):Loc:=
 [("script", .con (.ref s0)),("first", .int fi),("number", .int nb),("digits", .ref z),("lo", .int lo),("hi", .int hi),("low", .int low),("high", .int high),("least", .int least),("most", .int most),("ranges", .ref rl),("base", .ref bs),("drawn", .ref dr)]
theorem vz{rs:List Rng}{r:Rng}(a:∀r∈rs,kY r)(b:kY r):∀r'∈rs++ [r],kY r':=fun r' m=>
 (List.mem_append.1 m).elim (a r') fun m=>by obtain rfl:=List.mem_singleton.1 m;exact b
theorem Xz{N d:Nat}{C:aO}(hC:C=au tab N (d+1)){s0:Nat}{fi nb:Int}{F H:MH}{Q:Q1}{E:E1}{z rl bs dr:Nat}{lo hi low high least most d0 d1 d2 d3 d4 d5 e0 e1 e2 e3:Int}
  (C0:aj F [(rl, .list [])] H) (hdr:F dr=some (.list [.int e0, .int e1, .int e2, .int e3])) (hz:F z=some (.list [.int d0, .int d1, .int d2, .int d3, .int d4, .int d5]))
  (h0:0≤lo) (h1:lo≤hi) (h2:hi<7) (h3:high+1≤hi) (h4:0≤high+1) (h5:0≤low) (h6:0≤least) (h7:least≤most)
  (hQ:∀v sh H',bZ sh→Le F H'→jh H' v sh→Q v H'):
  (bA C true N none (mF.body.drop 8) (rQ s0 fi nb z rl bs dr lo hi low high least most) H (cz Q) (cJ E)).P:=by
 have hh:high<7:=Int.lt_of_lt_of_le (Int.lt_succ high) (Int.le_trans h3 (Int.le_of_lt h2))
 have fin:∀(rs:List Rng) (H1:MH),(∀r∈rs,kY r)→rs.length≤4→aj F [(rl, .list (rs.map bH))] H1→(bA C true N none (mF.body.drop 12) (rQ s0 fi nb z rl bs dr lo hi low high least most) H1 (cz Q) (cJ E)).P:=fun rs H1 hrs hrl C1=>by
  refine wg .n rfl ?_
  refine zB (mk:=V.bool) (m:=7) trivial (fun k rest acc hk h=> ?_) (List.range 7) [] vy fun ow how x hx=> ?_
  ·have g:=(by decide:∀k:Nat,k<7→((2:Int)=2∧0≤(k:Int)∧(k:Int)≤30)∧((0:Int)<2 ^ (k:Int).toNat∧(2:Int) ^ (k:Int).toNat<1073741824)) k hk
   have g1:=g.1
   have g2:=g.2
   refine oZ hC trivial ?_
   refine wg (.o (C1.fr _ _ hz) (.t (aL g1) (.t (aL g2) .n))) rfl ?_
   exact h _
  ·have C2:=C1.new (.list ([]++ow.map V.bool)) hx
   obtain ⟨u,hu,u8⟩:=fm (d5.fdiv 16+5) 8 (by decide)
   have ret:∀mn:Txt,mn.all dg=true→mn.length≤200→∀y H2,H2=H1.upd x (.list ([]++ow.map V.bool))→H2 y=none→Q (.tup [.ref y, .ref rl, .ref x, .int ((d5.fdiv 16+5).fmod 8), .str mn]) (H2.upd y (.list (lX.map V.str))):=fun mn m1 m2 y H2 e hy=>by
    subst e
    have C3:=C2.new (.list (lX.map V.str)) hy
    rw [show (d5.fdiv 16+5).fmod 8=_ from hu]
    exact hQ _ ⟨lX,rs,ow,u,mn⟩ _ (Xw hrs hrl (how.trans rfl) (Nat.le_of_lt_succ u8) m1 m2) C3.fr (.mk (sh:=⟨lX,rs,ow,u,mn⟩) y rl x (C3.at 0 rfl) (C3.at 2 rfl) (C3.at 1 rfl))
   by_cases c1:d5.fmod 4<3
   ·refine wg (.o (C2.fr _ _ hz) (.t rfl (.t (aL c1) (.t (aL c1) .n)))) rfl ?_
    intro y hy
    refine wg (.o ((C2.new _ hy).fr _ _ hz) .n) rfl ?_
    exact ret [97,108,108] (by decide) (by decide) y _ rfl hy
   ·by_cases c2:nb=1
    ·obtain ⟨w,hw,w3⟩:=fm (d5.fdiv 4) 3 (by decide)
     have e9:149+(d5.fdiv 4).fmod 3=((149+w:Nat):Int):=congrArg (149+ ·) hw
     refine wg (.o (C2.fr _ _ hz) (.t rfl (.f (bc c1) (.f (bY (aR c2)) (.o (C2.fr _ _ hz) .n))))) rfl ?_
     refine Xv e9 (Nat.le_trans (aQ rfl) (Nat.le_add_right 149 w)) (Nat.le_trans (Nat.add_le_add_left (Nat.le_of_lt w3) 149) (aQ rfl)) fun t t1 t2=> ?_
     refine wg .n rfl ?_
     intro y hy
     refine wg (.o ((C2.new _ hy).fr _ _ hz) .n) rfl ?_
     exact ret _ t1 t2 y _ rfl hy
    ·refine wg (.o (C2.fr _ _ hz) (.t rfl (.f (bc c1) (.t (j8 (aM c2)) (.t (j8 (aM c2)) .n))))) rfl ?_
     intro y hy
     refine wg (.o ((C2.new _ hy).fr _ _ hz) .n) rfl ?_
     exact ret [97,108,108] (by decide) (by decide) y _ rfl hy
 have snoc:∀(rs:List Rng) (r:Rng),O.list (rs.map bH++ [bH r])= .list ((rs++ [r]).map bH):=fun rs r=>congrArg O.list (List.map_append (l₂:= [r])).symm
 have st3:∀(rs:List Rng) (H1:MH),(∀r∈rs,kY r)→rs.length≤3→aj F [(rl, .list (rs.map bH))] H1→(bA C true N none (mF.body.drop 11) (rQ s0 fi nb z rl bs dr lo hi low high least most) H1 (cz Q) (cJ E)).P:=fun rs H1 hrs hrl C1=>by
  have gl:(rs.map bH).length≤3:=by rw [List.length_map];exact hrl
  by_cases c1:most≤high
  ·refine wg (.t (aL c1) (.o (C1.at 0 rfl) (.o (C1.fr _ _ hdr) (.o (C1.fr _ _ hdr) .n)))) rfl ?_
   refine cu hC (vq h6 h7 (Int.lt_of_le_of_lt c1 hh) fun r H2 hr le=> ?_)
   have C2:=C1.le le
   refine W.exec_ok _ (.o (C2.at 0 rfl) (.t (cU gl rfl) .z)) rfl ?_
   exact fin (rs++ [r]) _ (vz hrs hr) (aC hrl (lk 1 rfl)) (snoc rs r▸C2.set0)
  ·refine W.exec_ok _ (.f (bc c1) .z) rfl ?_
   exact fin rs H1 hrs (Nat.le_succ_of_le hrl) C1
 have st2:∀(rs:List Rng) (H1:MH),(∀r∈rs,kY r)→rs.length≤2→aj F [(rl, .list (rs.map bH))] H1→(bA C true N none (mF.body.drop 10) (rQ s0 fi nb z rl bs dr lo hi low high least most) H1 (cz Q) (cJ E)).P:=fun rs H1 hrs hrl C1=>by
  have gl:(rs.map bH).length≤2:=by rw [List.length_map];exact hrl
  by_cases c1:low≤high
  ·refine wg (.t (aL c1) (.o (C1.at 0 rfl) (.o (C1.fr _ _ hdr) (.o (C1.fr _ _ hdr) .n)))) rfl ?_
   refine cu hC (vq h5 c1 hh fun r H2 hr le=> ?_)
   have C2:=C1.le le
   refine W.exec_ok _ (.o (C2.at 0 rfl) (.t (cU gl rfl) .z)) rfl ?_
   exact st3 (rs++ [r]) _ (vz hrs hr) (aC hrl (lk 1 rfl)) (snoc rs r▸C2.set0)
  ·refine W.exec_ok _ (.f (bc c1) .z) rfl ?_
   exact st3 rs H1 hrs (Nat.le_succ_of_le hrl) C1
 have st1:∀(rs:List Rng) (H1:MH),(∀r∈rs,kY r)→rs.length≤1→aj F [(rl, .list (rs.map bH))] H1→(bA C true N none (mF.body.drop 9) (rQ s0 fi nb z rl bs dr lo hi low high least most) H1 (cz Q) (cJ E)).P:=fun rs H1 hrs hrl C1=>by
  have gl:(rs.map bH).length≤1:=by rw [List.length_map];exact hrl
  by_cases c1:d3.fmod 3<2
  ·refine wg (.o (C1.fr _ _ hz) (.t rfl (.t (aL c1) (.o (C1.at 0 rfl) (.o (C1.fr _ _ hdr) (.o (C1.fr _ _ hdr) .n)))))) rfl ?_
   refine cu hC (vq h4 h3 h2 fun r H2 hr le=> ?_)
   have C2:=C1.le le
   refine W.exec_ok _ (.o (C2.at 0 rfl) (.t (cU gl rfl) .z)) rfl ?_
   exact st2 (rs++ [r]) _ (vz hrs hr) (aC hrl (lk 1 rfl)) (snoc rs r▸C2.set0)
  ·refine W.exec_ok _ (.o (C1.fr _ _ hz) (.t rfl (.f (bc c1) .z))) rfl ?_
   exact st2 rs H1 hrs (Nat.le_succ_of_le hrl) C1
 refine wg (.o (C0.at 0 rfl) (.o (C0.fr _ _ hdr) (.o (C0.fr _ _ hdr) .n))) rfl ?_
 refine cu hC (vq h0 h1 h2 fun r H2 hr le=> ?_)
 have C2:=C0.le le
 refine W.exec_ok _ (.o (C2.at 0 rfl) (.t rfl .z)) rfl ?_
 exact st1 [r] _ (vz (rs:= []) (fun zz m=>nomatch m) hr) (Nat.le_refl 1) (snoc [] r▸C2.set0)
theorem XC{N d:Nat}{s0 fi nb:Nat}{xs:List Int}{H:MH}{Q:Q1}{E:E1}(hs:Z9.lst s0=some xs)(hl:xs.length≤63)(hn:nb<3)
  (hQ:∀v sh H',bZ sh→Le H H'→jh H' v sh→Q v H'):
  au tab N (d+3) none (.con (.ref 853)) [.con (.ref s0), .int (fi:Nat), .int (nb:Nat)] H Q E:=by
 refine kf mF rfl rfl fun C hC=> ?_
 refine wg .n rfl ?_
 refine zB (mk:=V.int) (m:=6) trivial (fun k rest acc hk h=> ?_) (List.range 6) [] vy fun vs hvs z hz=> ?_
 ·refine oZ hC trivial ?_
  refine wg .n rfl ?_
  refine cu hC (JH (k:=fi+k) hs hl fun v=> ?_)
  refine wg .n rfl ?_
  exact h v
 obtain ⟨d0,d1,d2,d3,d4,d5,rfl⟩:=Xx (hvs.trans rfl)
 have C1:=(aj.base H).newF (.list ([]++List.map V.int [d0,d1,d2,d3,d4,d5])) hz
 obtain ⟨C1,le1⟩:=C1
 have fz:(H.upd z (.list ([]++List.map V.int [d0,d1,d2,d3,d4,d5]))) z=some (.list [.int d0, .int d1, .int d2, .int d3, .int d4, .int d5]):=cF _ _ _
 refine wg (.o aq (.o aq (.o aq (.o aq (.o aq (.o aq .n)))))) rfl ?_
 refine Xu ?_
 refine wg .n rfl ?_
 intro rl hrl
 have C2:=C1.new (.list []) hrl
 refine wg .n rfl ?_
 intro bs hbs
 have C3:=C2.newF (.list [.int 35, .int 730, .int 1295, .int 612]) hbs
 obtain ⟨C3,le3⟩:=C3
 have fb:((H.upd z (.list ([]++List.map V.int [d0,d1,d2,d3,d4,d5]))).upd bs (.list [.int 35, .int 730, .int 1295, .int 612])) bs=some (.list [.int 35, .int 730, .int 1295, .int 612]):=cF _ _ _
 refine wg .n rfl ?_
 refine zB (mk:=V.int) (m:=4) trivial (fun k rest acc hk h=> ?_) (List.range 4) [] vy fun es hes dr hdr=> ?_
 ·have a1:=rz (l:= [35,730,1295,612]) (k:=k) hk
  have a2:=rz (l:= [d0,d1,d2,d3,d4,d5]) (k:=k) (Nat.lt_of_lt_of_le hk (aQ rfl))
  have gn:(977:Int).natAbs<4294967296∧(nb:Int).natAbs<4294967296:=⟨by decide,Nat.lt_of_lt_of_le hn (aQ rfl)⟩
  refine oZ hC trivial ?_
  refine wg (.o aq (.v a1 (.t (aL gn) (.o (C3.fr _ _ (le3 _ _ aq)) (.v a2 .n))))) rfl ?_
  exact h _
 obtain ⟨e0,e1,e2,e3,rfl⟩:=Xy (hes.trans rfl)
 have C4:=C3.newF (.list ([]++List.map V.int [e0,e1,e2,e3])) hdr
 have n2:∀x:Int,0≤x.fmod 2∧x.fmod 2≤1:=fun x=>⟨Int.fmod_nonneg_of_pos x (by decide),Int.le_of_lt_add_one (Int.fmod_lt_of_pos x (by decide))⟩
 have n3:∀x:Int,0≤x.fmod 3∧x.fmod 3≤2:=fun x=>⟨Int.fmod_nonneg_of_pos x (by decide),Int.le_of_lt_add_one (Int.fmod_lt_of_pos x (by decide))⟩
 have h4:=Int.sub_le_sub_left (n3 (d0.fdiv 2)).2 6
 have h3:=Int.sub_le_self (6 - (d0.fdiv 2).fmod 3 - 1) (n3 (d1.fdiv 2+1)).1
 have h5:=Int.sub_le_sub (Int.sub_le_sub_right h4 1) (n3 (d1.fdiv 2+1)).2
 exact Xz hC C4.1 (cF _ _ _) (C4.2 _ _ (le3 _ _ fz)) (n2 d0).1 (Int.le_trans (n2 d0).2 (Int.le_trans (by decide) h4)) (Int.lt_of_le_of_lt (Int.sub_le_self 6 (n3 _).1) (by decide)) (Int.add_le_of_le_sub_right h3) (Int.le_trans (by decide) (Int.add_le_add_right h5 1))
  (Int.add_nonneg (n2 d0).1 (n2 d1).1) (Int.add_nonneg (Int.add_nonneg (n2 d0).1 (n2 d1).1) (n2 (d2+1)).1) (Int.le_max_left _ _) fun v sh H' g le hs'=>hQ v sh H' g (le1.trans (le3.trans (C4.2.trans le))) hs'
noncomputable def zE:List V:= [.str [118], .str [], .str [97,32,98], .str [55], .str [120,10,121]]
theorem XD{u:Nat}(h:u<5):∃t,zE[u]? =some (.str t)∧gW t∧t.length≤10:=by
 refine gk h ?_ fun u h=>gk h ?_ fun u h=>gk h ?_ fun u h=>gk h ?_ fun u h=>gk h ?_ fun u h=>absurd h (Nat.not_lt_zero _)
 all_goals exact ⟨_,rfl,qZ (by decide),by decide⟩
theorem XF{i:Int}{z:Nat}{H:MH}{Q:Bool→MH→Prop}(hz:H z=some (.list [.int 1, .int 7]))(h:Q (([1,7]:List Int).contains i) H):mY .isin (.int i) (.ref z) H Q:=by
 rw [oW]
 refine aa.mk (x:=([1,7]:List Int).contains i) ?_ h
 show (bN (H z)).bind (fun xs=>(pP xs).map fun is=>is.contains i)=_
 rw [hz];rfl
noncomputable def zF:List St:=match (wU.body.drop 3:List St) with
 | .each _ _ _ b::_=>b
 | _=> []
noncomputable def zG(s0:Nat)(fi nb:Int)(pl tx:Nat)(er:Int)(tl:Loc):Loc:=
 ("script", .con (.ref s0))::("first", .int fi)::("number", .int nb)::("plan", .ref pl)::("texts", .ref tx)::("errors", .int er)::tl
structure JK(es:List (Nat×Txt×Nat))(n:Nat):Prop where
 len:es.length=n
 ent:∀e∈es,e.1<8∧gW e.2.1∧e.2.1.length≤10
theorem aj.as{F:MH}{a:Nat}{o o':O}{M:List (Nat×O)}{H:MH}(h:aj F ((a,o)::M) H)(e:o=o'):aj F ((a,o')::M) H:=e▸h
theorem XH{N d:Nat}{C:aO}(hC:C=au tab N (d+2)){nb fi s0 tx:Nat}{xs:List Int}{F:MH}{src:MH→Prop}{Q:QS}
  (hs:Z9.lst s0=some xs) (hl:xs.length≤63) (hn:nb<3) (ht:F tx=some (.list zE)) (hsrc:∀H,src H) {pl:Nat}
  (hQ:∀(er:Int) (tl:Loc) (H':MH) (es:List (Nat×Txt×Nat)),JK es 9→aj F [(pl, .list (es.map cN))] H'→Q .next (zG s0 fi nb pl tx er tl) H'):
  ∀(n k:Nat) (es:List (Nat×Txt×Nat)) (er:Int) (tl:Loc) (H:MH),k+n=9→JK es k→aj F [(pl, .list (es.map cN))] H→
   cT C N none (.name "k") zF src ((List.range' k n).map fun k:Nat=>V.int (k:Int)) (zG s0 fi nb pl tx er tl) H Q:=by
 intro n
 induction n with
 | zero=>
  intro k es er tl H hk he C0
  cases hk
  exact fW (hsrc _) (hQ er tl H es he C0)
 | succ n ih=>
  intro k es er tl H hk he C0
  have hk9:k<9:=hk▸Nat.lt_add_of_pos_right (Nat.zero_lt_succ n)
  have gn:(5:Int).natAbs<4294967296∧(k:Int).natAbs<4294967296:=⟨by decide,Nat.lt_of_lt_of_le hk9 (aQ rfl)⟩
  have gn2:(3:Int).natAbs<4294967296∧(nb:Int).natAbs<4294967296:=⟨by decide,Nat.lt_of_lt_of_le hn (aQ rfl)⟩
  refine fX hC (hsrc _) ?_
  refine wg (.v rfl (.v rfl (.v aP .n))) rfl ?_
  refine cu hC (JH (k:=fi+k) hs hl fun v=> ?_)
  have fin:∀(kd er:Int) (n8:Nat) (tl:Loc) (H1:MH),kd=(n8:Nat)→n8<8→cR tl "kind"=some (.int kd)→cR tl "digit"=some (.int v)→cR tl "k"=some (.int (k:Nat))→aj F [(pl, .list (es.map cN))] H1→
    (bA C true N none (zF.drop 3) (zG s0 fi nb pl tx er tl) H1 (m7 (fun l h=>cT C N none (.name "k") zF src ((List.range' (k+1) n).map fun k:Nat=>V.int (k:Int)) l h Q) Q) qU).P:=fun kd er n8 tl H1 e8 h8 l1 l2 l3 C1=>by
   obtain ⟨u,hu,u5⟩:=fm (v.fdiv 8+(k:Int)) 5 (by decide)
   obtain ⟨m,hm,m36⟩:=fm (v.fdiv 40+(k:Int)+3) 36 (by decide)
   obtain ⟨t,htx,htp,htl⟩:=XD u5
   have pu:cP 5 ((v.fdiv 8+(k:Int)).fmod 5)=some u:=by rw [show (v.fdiv 8+(k:Int)).fmod 5=_ from hu];rfl
   have gl:(es.map cN).length≤9:=by rw [List.length_map,he.len];exact Nat.le_of_lt hk9
   refine wg (.o (C1.at 0 rfl) (.v l1 (.v rfl (.v l2 (.v l3 (.o (C1.fr _ _ ht) (.k pu (.v htx (.v l2 (.v l3 (.o (C1.at 0 rfl) (.t (cU gl rfl) .n)))))))))))) rfl ?_
   have eo:O.list (es.map cN++ [.tup [.int kd, .str t, .int ((v.fdiv 40+(k:Int)+3).fmod 36)]])= .list ((es++ [(n8,t,m)]).map cN):=by
    rw [e8,show (v.fdiv 40+(k:Int)+3).fmod 36=_ from hm]
    exact congrArg O.list (List.map_append (l₂:= [(n8,t,m)])).symm
   exact ih (k+1) (es++ [(n8,t,m)]) er tl _ ((Nat.succ_add k n).trans hk) ⟨by rw [List.length_append,he.len];rfl,fun e me=>(List.mem_append.1 me).elim (he.ent e) fun me=>by obtain rfl:=List.mem_singleton.1 me;exact ⟨h8,htp,htl⟩⟩ (C1.set0.as eo)
  obtain ⟨kd,hkd,kd8⟩:=fm (v+1+5*(k:Int)+3*(nb:Int)) 8 (by decide)
  refine wg (.v aP (.v (aD rfl aP) (.t (aL gn) (.t (aL gn2) (.v aP .n))))) rfl ?_
  intro z hz
  have C1:=C0.le (Le.new (.list [.int 1, .int 7]) hz)
  refine wg .n rfl ?_
  refine XF aq ?_
  induction hc:([1,7]:List Int).contains ((v+1+5*(k:Int)+3*(nb:Int)).fmod 8) using Bool.casesOn with
  | true=>
   by_cases h4:er+1<4
   ·refine W.exec_ok _ (.t rfl (.t (aL h4) (.v (aD rfl aP) .z))) rfl ?_
    exact fin _ _ kd _ _ hkd kd8 aP (aD rfl (aD rfl aP)) (aD rfl (aD rfl (aD rfl aP))) C1
   ·refine W.exec_ok _ (.t rfl (.f (bc h4) .z)) rfl ?_
    exact fin _ _ 5 (bu (bu (bu (bu tl "k" (.int (k:Nat))) "digit" (.int v)) "kind" _) "kind" (.int 5)) _ rfl (by decide) aP (aD rfl (aD rfl aP)) (aD rfl (aD rfl (aD rfl aP))) C1
  | false=>
   refine W.exec_ok _ (.f rfl .z) rfl ?_
   exact fin _ _ kd _ _ hkd kd8 aP (aD rfl aP) (aD rfl (aD rfl aP)) C1
theorem XJ{N d:Nat}{s0 fi nb:Nat}{xs:List Int}{H:MH}{Q:Q1}{E:E1}(hs:Z9.lst s0=some xs)(hl:xs.length≤63)(hn:nb<3)
  (hQ:∀z p H',rM p→Le H H'→H' z=some (.list (p.map cN))→Q (.ref z) H'):
  au tab N (d+3) none (.con (.ref 902)) [.con (.ref s0), .int (fi:Nat), .int (nb:Nat)] H Q E:=by
 refine kf wU rfl rfl fun C hC=> ?_
 refine wg .n rfl ?_
 intro pl hpl
 have C1:=(aj.base H).new (.list []) hpl
 refine wg .n rfl ?_
 intro tx htx
 have C2:=C1.newF (.list zE) htx
 refine wg .n rfl ?_
 refine XH hC hs hl hn (cF _ _ _) (fun zz=>trivial) (fun er tl H' es he C3=> ?_) 9 0 [] 0 [] _ rfl ⟨rfl,fun zz m=>nomatch m⟩ C2.1
 refine wg .n rfl ?_
 exact hQ pl es H' ⟨he.len,he.ent⟩ (C2.2.trans C3.fr) (C3.at 0 rfl)
theorem XK{F H:MH}(k:Le F H){a:Nat}(e:H a=none):F a=none:=by
 induction h:F a using Option.casesOn with
 | none=>rfl
 | some o=>exact nomatch (k a o h).symm.trans e
theorem aj.join{F:MH}{M M':List (Nat×O)}{H H':MH}(h:aj F M H)(k:Le H H')(h':aj H M' H'):aj F (M'++M) H':=by
 refine ⟨h.fr.trans k,fun p m=>(List.mem_append.1 m).elim (h'.cells p) fun m=>k _ _ (h.cells p m),fun p m=>(List.mem_append.1 m).elim (fun m=>XK h.fr (h'.ap p m)) (h.ap p), ?_⟩
 rw [List.map_append]
 refine List.nodup_append.2 ⟨h'.nd,h.nd,fun a ma b mb e=> ?_⟩
 obtain ⟨p,mp,rfl⟩:=List.mem_map.1 ma
 obtain ⟨q,mq,rfl⟩:=List.mem_map.1 mb
 exact nomatch (e▸h'.ap p mp:H q.1=none).symm.trans (h.cells q mq)
theorem aj.frzL{A M:List (Nat×O)}{H:MH}:∀{F:MH},aj F (A++M) H→∃F',Le F F'∧(∀p∈A,F' p.1=some p.2)∧aj F' M H:=by
 induction A with
 | nil=>exact fun h=>⟨_,Le.refl _,fun zz m=>(nomatch m),h⟩
 | cons p A ih=>
  intro F h
  have h1:=aj.frz (z:=p.1) (o:=p.2) h
  obtain ⟨F',l2,hA,h2⟩:=ih h1.1
  exact ⟨F',h1.2.trans l2,fun q m=>(List.mem_cons.1 m).elim (fun e=>e▸l2 _ _ (cF _ _ _)) (hA q),h2⟩
noncomputable def zH:List (V×V):=cL.take 13
noncomputable def zJ:List (V×V):=cL.drop 13
theorem XM{N d:Nat}{hd:Option Nat}{H:MH}{Q:Q1}{E:E1}(hQ:∀z,H z=none→Q (.ref z) (H.upd z (.dict zH))):
  au tab N (d+1) hd (.con (.ref 792)) [] H Q E:=by
 refine k0 Cr rfl rfl fun C hC=> ?_
 refine wg .n rfl ?_
 exact hQ
theorem XN{N d:Nat}{hd:Option Nat}{H:MH}{Q:Q1}{E:E1}(hQ:∀z,H z=none→Q (.ref z) (H.upd z (.dict zJ))):
  au tab N (d+1) hd (.con (.ref 834)) [] H Q E:=by
 refine k0 CG rfl rfl fun C hC=> ?_
 refine wg .n rfl ?_
 exact hQ
theorem JL{a:Nat}{es:List (V×V)}{k:Txt}{v:V}{H:MH}{Q:Q1}(ha:H a=some (.dict es))(h0:bB es (.str k)=true)(h1:aW es (.str k)=none)(h:Q v H):mX .dpop (.ref a) [.str k,v] H Q:=by
 rw [qL]
 show aa (lq (H a)) _
 rw [ha]
 exact ⟨h0,h1,h⟩
theorem XQ{N d:Nat}{hd:Option Nat}{h to il vd cm fi:Nat}{H:MH}{Q:Q1}{E:E1}(hh:H h=some (fG to il 0 0 vd cm fi))(hc:H cm=some (.dict []))(hf:H fi=some (.dict []))(hi:H il=some (.dict []))
  (hQ:Q .none H):au tab N (d+1) hd (.con (.ref 562)) [.ref h, .str [114]] H Q E:=by
 refine k0 BX rfl rfl fun C hC=> ?_
 refine wg (.o hh (.o hc .n)) rfl ?_
 refine JL hc rfl rfl ?_
 refine wg (.o hh (.o hf .n)) rfl ?_
 refine JL hf rfl rfl ?_
 refine wg (.o hh (.o hi .n)) rfl ?_
 exact hQ
theorem XR{N d:Nat}{hd:Option Nat}{h to il vd cm fi:Nat}{a dt:V}{H:MH}{Q:Q1}{E:E1}(hh:H h=some (fG to il 0 0 vd cm fi))(hc:H cm=some (.dict []))(hf:H fi=some (.dict []))(hi:H il=some (.dict []))
  (hQ:Q .none (H.upd cm (.dict [(.str [114], .tup [a,dt])]))):
  au tab N (d+2) hd (.con (.ref 555)) [.ref h, .str [114],a,dt] H Q E:=by
 refine kf BW rfl rfl fun C hC=> ?_
 refine wg (.o hh .n) rfl ?_
 refine cu hC (XQ hh hc hf hi ?_)
 refine wg (.o hh (.o hc .n)) rfl ?_
 exact hQ
theorem vA{N d:Nat}{hd:Option Nat}{h to il vd cm fi:Nat}{dep sp:Int}{es:List (V×V)}{nm:Txt}{H:MH}{Q:Q1}{E:E1}(hh:H h=some (fG to il dep sp vd cm fi))(hv:H vd=some (.dict es))(h0:bB es (.str nm)=true)(h1:(aW es (.str nm)).isSome=false)
  (hQ:Q (.bool false) H):au tab N (d+1) hd (.con (.ref 491)) [.ref h, .str nm] H Q E:=by
 refine k0 wM rfl rfl fun C hC=> ?_
 rw [←h1] at hQ
 refine wg (.o hh (.o hv (.t h0 (.f h1 .n)))) rfl ?_
 exact hQ
theorem vB{N d:Nat}{hd:Option Nat}{h to il vd cm fi x t:Nat}{dep sp n:Int}{es:List (V×V)}{nm v:Txt}{H:MH}{Q:Q1}{E:E1}(hh:H h=some (fG to il dep sp vd cm fi))(hv:H vd=some (.dict es))(h0:bB es (.str nm)=true)(h1:aW es (.str nm)=some (.ref x))(hx:H x=some (d9 ie v t n))
  (hQ:Q (.bool true) H):au tab N (d+1) hd (.con (.ref 491)) [.ref h, .str nm] H Q E:=by
 refine k0 wM rfl rfl fun C hC=> ?_
 have h2:(aW es (.str nm)).isSome=true:=congrArg Option.isSome h1
 refine wg (.o hh (.o hv (.t h0 (.t h2 (.o hh (.o hv (.t h0 (.v h1 (.o hx .n))))))))) rfl ?_
 exact hQ
theorem XS{N d:Nat}{hd:Option Nat}{h to il vd cm fi x:Nat}{dep sp:Int}{es:List (V×V)}{nm:Txt}{H:MH}{Q:Q1}{E:E1}(hh:H h=some (fG to il dep sp vd cm fi))(hv:H vd=some (.dict es))(h0:bB es (.str nm)=true)(h1:aW es (.str nm)=some (.ref x))
  (hQ:Q (.ref x) H):au tab N (d+2) hd (.con (.ref 498)) [.ref h, .str nm] H Q E:=by
 refine k0 tu rfl rfl fun C hC=> ?_
 have h2:(aW es (.str nm)).isSome=true:=congrArg Option.isSome h1
 refine wg (.o hh .n) rfl ?_
 refine cu hC (k0 s8 rfl rfl fun C2 hC2=> ?_)
 refine wg (.o hv (.t h0 (.f (bY h2) (.o hv (.t h0 (.v h1 .n)))))) rfl ?_
 exact hQ
theorem JM{N d:Nat}{hd:Option Nat}{h to il vd cm fi x t:Nat}{dep sp n:Int}{es:List (V×V)}{nm v:Txt}{H:MH}{Q:Q1}{E:E1}(hh:H h=some (fG to il dep sp vd cm fi))(hv:H vd=some (.dict es))(h0:bB es (.str nm)=true)(h1:aW es (.str nm)=some (.ref x))(hx:H x=some (d9 ie v t n))
  (hQ:Q (.str v) H):au tab N (d+3) hd (.con (.ref 519)) [.ref h, .str nm] H Q E:=by
 refine k0 BV rfl rfl fun C hC=> ?_
 refine wg (.o hh (.o hh .n)) rfl ?_
 refine cu hC (XS hh hv h0 h1 ?_)
 refine wg .n rfl ?_
 refine cu hC (k0 BP rfl rfl fun C2 hC2=> ?_)
 refine wg (.o hx (.o hx .n)) rfl ?_
 exact hQ
noncomputable def vC(s0 nb:Nat)(sv:V)(c:MC)(mo:Nat)(nv:V)(tl:Loc):Loc:=
 ("script", .con (.ref s0))::("number", .int (nb:Nat))::("shape",sv)::("plan", .ref c.pl)::("host", .ref c.h)::("ops", .ref c.ops)::("more", .ref mo)::("name",nv)::("machine", .ref c.m)::("log", .ref c.lg)::tl
theorem XX{N d:Nat}{C:aO}(hC:C=au tab N (d+3)){c:MC}{w':Wd}{H:MH}{Q:Q1}{E:E1}{s0 nb mo L B cn:Nat}{sv nv tv du:V}{t:Txt}{es:List (V×V)}{vc:List (Nat×O)}(hbk:dH w'.book es vc)
  (hm:H c.m=some (eY c.h c.ops c.al c.bk w'.cnt t)) (hh:H c.h=some (fG c.to c.il 0 w'.log.length c.vd c.cm c.fi)) (hlg:H c.lg=some (.list (w'.log.map bR))) (hv:H c.vd=some (.dict es)) (hvc:∀p∈vc,H p.1=some p.2)
  (hB:H B=some (.dict (gM w'.book))) (hcn:H cn=some (.list [.int w'.cnt])) (hal:H c.al=some (.list [])) (hlog:w'.log.length≤1000)
  (hQ:∀H',Le H H'→Q (.bool true) H'):
  (bA C true N none (oE.body.drop 13) (vC s0 nb sv c mo nv [("told",tv),("world", .tup [.ref L, .ref c.pl, .ref B, .ref cn]),("due",du)]) H (cz Q) (cJ E)).P:=by
 have gl:(w'.log.map bR).length≤1000:=by rw [List.length_map];exact hlog
 have last:∀nv H1,Le H H1→(bA C true N none (oE.body.drop 14) (vC s0 nb sv c mo nv [("told",tv),("world", .tup [.ref L, .ref c.pl, .ref B, .ref cn]),("due",du)]) H1 (cz Q) (cJ E)).P:=fun nv H1 le1=>by
  have e1:(w'.cnt:Int)=(w'.cnt:Int):=rfl
  have e2:(w'.log.length:Int)=((w'.log.map bR).length:Int):=by rw [List.length_map]
  refine wg (.o (le1 _ _ hm) (.o (le1 _ _ hcn) (.f (bY (aR e1)) (.o (le1 _ _ hh) (.o (le1 _ _ hlg) (.t (aA gl rfl) (.f (bY (aR e2)) (.o (le1 _ _ hm) .n)))))))) rfl ?_
  intro z hz
  refine wg .n rfl ?_
  refine Jo (bx hz (le1 _ _ hal)) aq ?_
  refine wg (.o (bx hz (le1 _ _ hh)) (.o (bx hz (le1 _ _ hh)) .n)) rfl ?_
  exact hQ _ (le1.trans (Le.new _ hz))
 refine wg .n rfl ?_
 intro nl hnl
 have gF:=Le.new (.list [.str [58,58,101,114,114,111,114,73,110,102,111], .str [58,58,101,114,114,111,114,67,111,100,101]]) hnl
 have hl:(H.upd nl (.list [.str [58,58,101,114,114,111,114,73,110,102,111], .str [58,58,101,114,114,111,114,67,111,100,101]])) nl=some (.list [.str EI, .str EC]):=cF _ _ _
 have hh1:=gF _ _ hh
 have hv1:=gF _ _ hv
 have hB1:=gF _ _ hB
 have hvc1:∀p∈vc,(H.upd nl (.list [.str [58,58,101,114,114,111,114,73,110,102,111], .str [58,58,101,114,114,111,114,67,111,100,101]])) p.1=some p.2:=fun p m=>gF _ _ (hvc p m)
 clear hB hh hv hvc
 generalize w'.book=bk at hbk hB1
 refine wg (.o aq .n) rfl ?_
 cases hbk with
 | no=>
  refine fX hC hl ?_
  refine wg (.o hh1 .n) rfl ?_
  refine cu hC (vA (d:=d+2) hh1 hv1 rfl rfl ?_)
  refine wg (.o hB1 (.o hh1 .n)) rfl ?_
  refine cu hC (vA (d:=d+2) hh1 hv1 rfl rfl ?_)
  refine wg .n rfl ?_
  refine fX hC hl ?_
  refine wg (.o hh1 .n) rfl ?_
  refine cu hC (vA (d:=d+2) hh1 hv1 rfl rfl ?_)
  refine wg (.o hB1 (.o hh1 .n)) rfl ?_
  refine cu hC (vA (d:=d+2) hh1 hv1 rfl rfl ?_)
  refine wg .n rfl ?_
  refine fW hl ?_
  exact last _ _ gF
 | yes i e x y t1 u1 n1 m1=>
  have hx:=hvc1 (x,d9 ie i t1 n1) (List.Mem.head _)
  have hy:=hvc1 (y,d9 ie e u1 m1) (List.Mem.tail _ (List.Mem.head _))
  have ri:i=i:=rfl
  have re:e=e:=rfl
  refine fX hC hl ?_
  refine wg (.o hh1 .n) rfl ?_
  refine cu hC (vB (d:=d+2) hh1 hv1 rfl rfl hx ?_)
  refine wg (.o hB1 (.o hh1 .n)) rfl ?_
  refine cu hC (vB (d:=d+2) hh1 hv1 rfl rfl hx ?_)
  refine wg (.o hh1 .n) rfl ?_
  refine cu hC (JM hh1 hv1 rfl rfl hx ?_)
  refine wg (.o hB1 (.t rfl (.f (bY (aR ri)) (.f (bY (aR ri)) .n)))) rfl ?_
  refine fX hC hl ?_
  refine wg (.o hh1 .n) rfl ?_
  refine cu hC (vB (d:=d+2) hh1 hv1 rfl rfl hy ?_)
  refine wg (.o hB1 (.o hh1 .n)) rfl ?_
  refine cu hC (vB (d:=d+2) hh1 hv1 rfl rfl hy ?_)
  refine wg (.o hh1 .n) rfl ?_
  refine cu hC (JM hh1 hv1 rfl rfl hy ?_)
  refine wg (.o hB1 (.t rfl (.f (bY (aR re)) (.f (bY (aR re)) .n)))) rfl ?_
  refine fW hl ?_
  exact last _ _ gF
theorem JN{H:MH}{a b:V}(h:V.sameF a b=true):∀n:Nat,V.sameD H n a b=true
 | 0=>h
 | n+1=>by
  show (V.sameF a b || _ || _)=true
  rw [h];rfl
theorem pJ{H:MH}(n:Nat)(s:Txt):V.sameD H n (.str s) (.str s)=true:=JN (a:= .str s) (b:= .str s) (beq_self_eq_true (some s)) n
theorem vD{H:MH}(n:Nat)(i:Int):V.sameD H n (.int i) (.int i)=true:=JN (a:= .int i) (b:= .int i) (beq_self_eq_true (some i)) n
theorem jL{f:V→V→Bool}{a b:V}{xs ys:List V}(h:f a b=true)(t:ig f xs ys=true):ig f (a::xs) (b::ys)=true:=by
 obtain ⟨h1,h2⟩:=Bool.and_eq_true_iff.1 t
 refine Bool.and_eq_true_iff.2 ⟨?_,Bool.and_eq_true_iff.2 ⟨h,h2⟩⟩
 rw [List.length_cons,List.length_cons,eq_of_beq h1]
 exact beq_self_eq_true _
theorem vG{f:V→V→Bool}:∀{xs:List V},(∀v∈xs,f v v=true)→ig f xs xs=true
 | [],_=>rfl
 | _::_,h=>jL (h _ List.mem_cons_self) (vG fun v m=>h v (List.mem_cons_of_mem _ m))
theorem zK{H:MH}{n:Nat}{xs:List V}(h:∀v∈xs,V.sameD H n v v=true):V.sameD H (n+1) (.tup xs) (.tup xs)=true:=by
 show (V.sameF (.tup xs) (.tup xs) || ig (V.sameD H n) xs xs || _)=true
 rw [vG h,Bool.or_true];rfl
theorem vH{H:MH}{n:Nat}(ts:List Txt):V.sameD H (n+1) (.tup (ts.map V.str)) (.tup (ts.map V.str))=true:=zK fun v m=>by
 obtain ⟨t,_,rfl⟩:=List.mem_map.1 m
 exact pJ _ _
theorem JP{H:MH}(log:List (Txt×List (List Txt))):ig (V.sameD H 8) (log.map bR) (log.map bR)=true:=vG fun v m=>by
 obtain ⟨e,_,rfl⟩:=List.mem_map.1 m
 refine zK fun v m=> ?_
 rcases List.mem_cons.1 m with rfl | m
 ·exact pJ _ _
 ·obtain rfl:=List.mem_singleton.1 m
  refine zK fun v m=> ?_
  obtain ⟨s,_,rfl⟩:=List.mem_map.1 m
  exact vH s
theorem Yb{H:MH}:∀n:Nat,V.sameD H 8 (je n) (je n)=true
 | 0=>vH [[65],[98,32,99]]
 | 1=>pJ _ _
 | _+2=>vH [[78,79,78,69]]
theorem Yc{H:MH}{x y:Nat}{b:Bool}(h1:H x=some (cB b))(h2:H y=some (cB b)):V.sameD H 8 (.ref x) (.ref y)=true:=by
 show (V.sameF (.ref x) (.ref y) || _ || (bN (H x)).any fun xs=>(bN (H y)).any fun ys=>ig (V.sameD H 7) xs ys)=true
 rw [h1,h2]
 induction b using Bool.casesOn with
 | false=>rfl
 | true=>
  have k:ig (V.sameD H 7) [.tup [.str [45,120], .str [121,32,122]]] [.tup [.str [45,120], .str [121,32,122]]]=true:=vG fun v m=>by obtain rfl:=List.mem_singleton.1 m;exact vH [[45,120],[121,32,122]]
  exact congrArg (false || false || ·) k
theorem vI{H:MH}{a b:Nat}{xs ys:List V}{Q:Bool→MH→Prop}(ha:H a=some (.list xs))(hb:H b=some (.list ys))(hs:ig (V.sameD H 8) xs ys=true)(h:Q true H):mY .eq (.ref a) (.ref b) H Q:=by
 rw [oW]
 refine aa.mk (x:=true) ?_ h
 show (bN (H a)).bind (fun xs=>(bN (H b)).bind fun ys=>_)=_
 rw [ha,hb]
 exact (if_pos (eq_of_beq (Bool.and_eq_true_iff.1 hs).1)).trans (if_pos hs)
noncomputable def Yd(r:Res)(ex:Nat):List V:=match r with
 | .ok t=> [.int 0, .str t]
 | .flt f=> [.int f.code, .str f.val,je f.ec, .int f.lvl, .int f.ret, .str f.info, .ref ex]
theorem JQ{N d:Nat}{C:aO}(hC:C=au tab N (d+39)){c:MC}{p:List (Nat×Txt×Nat)}{sh:aN}{r:Res}{w':Wd}{F H:MH}{Q:Q1}{E:E1}{s0 nb mo:Nat}{nv:V}{t:Txt}{es:List (V×V)}{vc:List (Nat×O)}{tz ex:Nat}{v:V}(hN:200000≤N)
  (C0:aj F (cells c w' t es++vc) H) (hbk:dH w'.book es vc) (htz:F tz=some (.list (Yd r ex))) (hex:∀f,r= .flt f→F ex=some (cB f.ex)) (hlaw:gj p sh 0 none [] [] w0 r w') (hsh:jh F v sh)
  (hpl:F c.pl=some (.list (p.map cN))) (hal:F c.al=some (.list [])) (hlog:w'.log.length≤1000) (hc0:∀f,r= .flt f→f.code≠0)
  (hQ:∀H',Le F H'→Q (.bool true) H'):
  (bA C true N none (oE.body.drop 10) (vC s0 nb v c mo nv [("told", .ref tz)]) H (cz Q) (cJ E)).P:=by
 refine wg .n rfl ?_
 intro L hL
 have C1:=C0.new (.list []) hL
 refine wg .n rfl ?_
 intro B hB
 have C2:=C1.new (.dict []) hB
 refine wg .n rfl ?_
 intro cn hcn
 have C3:=C2.new (.list [.int 0]) hcn
 have pm:([(cn,O.list [V.int 0]),(B,O.dict []),(L,O.list [])]++(cells c w' t es++vc)).Perm ((cells c w' t es++vc)++ [(L,O.list []),(B,O.dict []),(cn,O.list [V.int 0])]):=
  (List.perm_append_comm (l₁:= [(cn,O.list [V.int 0]),(B,O.dict []),(L,O.list [])]) (l₂:=cells c w' t es++vc)).trans (List.Perm.append_left _ (List.reverse_perm [(L,O.list []),(B,O.dict []),(cn,O.list [V.int 0])]))
 obtain ⟨F4,le4,hA,C4⟩:=(C3.perm pm).frzL
 refine wg .n rfl ?_
 refine cu hC (Js (lc:=⟨L,c.pl,B,cn⟩) (D:=d+37) (ss:= []) (w:=w0) (hsh.mono le4) C4 fun f F5 H5 st q1 q2 q3 le5 hat=> ?_)
 have leA:=le4.trans le5
 have after:∀(F6 H6 H7:MH) (du:V),Le F5 F6→aj F6 (dX ⟨L,c.pl,B,cn⟩ w') H6→Le H6 H7→H7 c.lg=some (.list (w'.log.map bR))∧H7 L=some (.list (w'.log.map bR))∧
   (bA C true N none (oE.body.drop 13) (vC s0 nb v c mo nv [("told", .ref tz),("world", .tup [.ref L, .ref c.pl, .ref B, .ref cn]),("due",du)]) H7 (cz Q) (cJ E)).P:=fun F6 H6 H7 du le6 C6 le7=>by
  have at7:∀p∈cells c w' t es++vc,H7 p.1=some p.2:=fun p m=>le7 _ _ (C6.fr _ _ (le6 _ _ (le5 _ _ (hA p m))))
  have hlg:=at7 _ (List.mem_append_left _ (List.Mem.tail _ (List.Mem.tail _ (List.Mem.head _))))
  refine ⟨hlg,le7 _ _ (C6.at 0 rfl),XX hC hbk (at7 _ (List.mem_append_left _ (List.Mem.head _))) (at7 _ (List.mem_append_left _ (List.Mem.tail _ (List.Mem.head _)))) hlg (at7 _ (List.mem_append_left _ (List.Mem.tail _ (List.Mem.tail _ (List.Mem.tail _ (List.Mem.head _)))))) (fun p m=>at7 p (List.mem_append_right _ m)) (le7 _ _ (C6.at 1 rfl)) (le7 _ _ (C6.at 2 rfl)) (le7 _ _ (C6.fr _ _ (le6 _ _ (leA _ _ hal)))) hlog fun H8 le8=> ?_⟩
  exact hQ H8 ((leA.trans le6).trans (C6.fr.trans (le7.trans le8)))
 refine hlaw N (d+38) none f F5 H5 st .none [] _ _ N hN q2 q3 (Nat.le_trans (aQ rfl:2*(9 - 0)+8≤38) (Nat.le_add_left 38 d)) (Nat.lt_of_le_of_lt (Jv _ _) (Nat.lt_of_lt_of_le (aQ rfl:80<200000) hN)) (by rw [q1];exact leA _ _ hpl) hat ?_
 rw [q1]
 have tz5:=leA _ _ htz
 induction r using Res.casesOn with
 | ok t0=>
  intro F6 H6 z rest le6 C6 hz hr
  have gr:(V.int 0::V.str t0::rest).length≤8:=Nat.succ_le_succ (Nat.succ_le_succ hr)
  refine wg (.o (C6.fr _ _ hz) (.k (pl (aA gr rfl)) .n)) rfl ?_
  refine pq (C6.fr _ _ hz) rfl (rB (n:=2) (by decide)) rfl (fY gr rfl) fun sl hsl=> ?_
  have le7:=Le.new (.list [.int 0, .str t0]) hsl
  obtain ⟨a1,a2,a3⟩:=after F6 H6 _ (.ref z) le6 C6 le7
  refine wg .n rfl ?_
  refine vI (le7 _ _ (C6.fr _ _ (le6 _ _ tz5))) aq (jL (vD _ _) (jL (pJ _ _) rfl)) ?_
  refine wg .n rfl ?_
  refine vI a1 a2 (JP _) ?_
  refine W.exec_ok _ (.f rfl (.f rfl .z)) rfl ?_
  exact a3
 | flt g=>
  intro F6 H6 z x le6 C6 hx
  obtain ⟨C7,le67⟩:=C6.frz
  have hz:(F6.upd z (d8 g x)) z=some (d8 g x):=cF _ _ _
  have c0: ¬g.code=0:=hc0 g rfl
  refine wg (.o (C7.fr _ _ aq) (.f (aM c0) .n)) rfl ?_
  refine pq (C7.fr _ _ hz) rfl (rB (n:=7) (by decide)) rfl (aQ rfl) fun sl hsl=> ?_
  have le7:=Le.new (.list [.int g.code, .str g.val,je g.ec, .int g.lvl, .int g.ret, .str g.info, .ref x]) hsl
  obtain ⟨a1,a2,a3⟩:=after _ H6 _ (.ref z) (le6.trans le67) C7 le7
  refine wg .n rfl ?_
  have sx:=Yc (le7 _ _ (C7.fr _ _ (le67 _ _ (le6 _ _ (leA _ _ (hex g rfl)))))) (le7 _ _ (C7.fr _ _ (le67 _ _ hx)))
  refine vI (le7 _ _ (C7.fr _ _ (le67 _ _ (le6 _ _ tz5)))) aq (jL (vD _ _) (jL (pJ _ _) (jL (Yb _) (jL (vD _ _) (jL (vD _ _) (jL (pJ _ _) (jL sx rfl))))))) ?_
  refine wg .n rfl ?_
  refine vI a1 a2 (JP _) ?_
  refine W.exec_ok _ (.f rfl (.f rfl .z)) rfl ?_
  exact a3
theorem aj.pick{F:MH}{M M':List (Nat×O)}{H:MH}(h:aj F M H)(is:List Nat)(hn:is.Nodup)(e:M'.map some=is.map fun i=>M[i]?):aj F M' H:=by
 have mem:∀p∈M',p∈M:=fun p m=>by
  have:=List.mem_map_of_mem (f:=some) m
  rw [e] at this
  obtain ⟨i,_,hi⟩:=List.mem_map.1 this
  exact List.mem_of_getElem? hi
 refine ⟨h.fr,fun p m=>h.cells p (mem p m),fun p m=>h.ap p (mem p m), ?_⟩
 have key:(M'.map some).Pairwise fun a b=>∀p q:Nat×O,a=some p→b=some q→p.1≠q.1:=by
  rw [e]
  refine List.pairwise_map.2 (hn.imp fun {i j} hij p q hp hq hpq=> ?_)
  have e1:(M.map (·.1))[i]? =some p.1:=by rw [List.getElem?_map,hp];rfl
  have e2:(M.map (·.1))[j]? =some p.1:=by rw [List.getElem?_map,hq,hpq];rfl
  obtain ⟨l1,_⟩:=List.getElem?_eq_some_iff.1 e1
  exact hij ((List.getElem?_inj l1 h.nd).1 (e1.trans e2.symm))
 exact List.pairwise_map.2 ((List.pairwise_map.1 key).imp fun {p q} k=>k p q rfl rfl)
theorem Ye:zJ.foldl (fun l e=>bC l e.1 e.2) zH=cL:=rfl
theorem Yg{ra rb:Nat}{ea eb ed:List (V×V)}{loc loc':Loc}{H:MH}{Q:QS}(l1:get loc "ops"=some (.ref ra))(l2:get loc "more"=some (.ref rb))(h1:H ra=some (.dict ea))(h2:H rb=some (.dict eb))(ne:ra≠rb)
  (s1:(bU (ea.map (·.1))).isSome=true) (s2:(bU (eb.map (·.1))).isSome=true) (sl:ea.length+eb.length<1000) (e1:(eb.map (·.1)).foldl (fun l k=>put l "name" k) loc=loc') (e2:eb.foldl (fun l e=>bC l e.1 e.2) ea=ed)
  (hQ:Q .next loc' (H.upd ra (.dict ed))):yj "name" "ops" "more" loc H Q:=by
 rw [G3]
 subst e1 e2
 refine aa.mk (x:=ra) (by rw [l1];rfl) (aa.mk (x:=rb) (by rw [l2];rfl) (aa.mk (x:=ea) (by rw [h1];rfl) (aa.mk (x:=eb) (by rw [h2];rfl) ⟨ne,by decide,by decide,s1,s2,sl,hQ⟩)))
theorem Yh{N d:Nat}{s0 nb:Nat}{xs:List Int}{H:MH}{Q:Q1}{E:E1}(hN:200000≤N)(hN2:4 ^ 81+1<N)(hs:Z9.lst s0=some xs)(hl:xs.length≤63)(hn:nb<3)
  (hQ:∀H',Le H H'→Q (.bool true) H'):
  au tab N (d+40) none (.con (.ref 966)) [.con (.ref s0), .int (nb:Nat)] H Q E:=by
 refine kf oE rfl rfl fun C hC=> ?_
 have gn:(21:Int).natAbs<4294967296∧(nb:Int).natAbs<4294967296:=⟨by decide,Nat.lt_of_lt_of_le hn (aQ rfl)⟩
 refine wg (.t (aL gn) .n) rfl ?_
 refine cu hC (XC (d:=d+36) (fi:=21*nb) hs hl hn ?_)
 intro v sh H1 g le1 hsh
 refine wg (.t (aL gn) .n) rfl ?_
 refine cu hC (XJ (d:=d+36) (fi:=21*nb+6) hs hl hn ?_)
 intro pl p H2 hp le2 hpl
 refine wg .n rfl ?_
 refine cu hC (Uz (d:=d+36) ?_)
 intro ho to il vd cm fi H3 C3
 refine wg .n rfl ?_
 refine cu hC (XM (d:=d+38) ?_)
 intro op hop
 have C4:=C3.new (.dict zH) hop
 refine wg .n rfl ?_
 refine cu hC (XN (d:=d+38) ?_)
 intro mo hmo
 have C5:=C4.new (.dict zJ) hmo
 refine wg .n rfl ?_
 refine Yg (loc':= [("script", .con (.ref s0)),("number", .int (nb:Nat)),("shape",v),("plan", .ref pl),("host", .ref ho),("ops", .ref op),("more", .ref mo),("name", .str [99,97,117,103,104,116,95,99,111,100,101])]) rfl rfl (C5.at 1 rfl) (C5.at 0 rfl) (C5.ne' rfl 0 rfl) rfl rfl (by decide) rfl Ye ?_
 have C6:=C5.set 1 (.dict cL) rfl
 refine wg .n rfl ?_
 refine cu hC (UG (d:=d+37) ?_)
 intro x al bk H7 le7 C7'
 have C7:=C6.join le7 C7'
 refine wg .n rfl ?_
 intro lg hlg
 have C8:=C7.new (.list []) hlg
 refine wg (.o (C8.at 6 rfl) .n) rfl ?_
 intro hl' hhl
 have C9:=C8.new (.list [.ref x]) hhl
 refine wg .n rfl ?_
 refine cu hC (XR (d:=d+37) (C9.at 7 rfl) (C9.at 9 rfl) (C9.at 8 rfl) (C9.at 11 rfl) ?_)
 have C10:=C9.set 9 (.dict [(.str [114], .tup [.con (.ref 914), .tup [.ref hl', .ref lg, .ref pl]])]) rfl
 have hsh0:=hsh
 cases hsh with | mk it rg ow i1 i2 i3=>
 refine wg .n rfl ?_
 refine cu hC (Ia (d:=d+36) g (C10.fr _ _ (le2 _ _ i1)) (C10.fr _ _ (le2 _ _ i2)) (C10.fr _ _ (le2 _ _ i3)) ?_)
 intro cd H11 le11 hcd
 obtain ⟨C11,leF,leD⟩:=C10.frzAll le11
 have hcd11:=hcd.mono leD
 have pl11:=leF _ _ hpl
 have sh11:=(hsh0.mono le2).mono leF
 have leH11:Le H (jg H2 _ H11):=le1.trans (le2.trans leF)
 generalize jg H2 _ H11=F11 at C11 leF leD hcd11 pl11 sh11 leH11
 have C12:=C11.pick (M':= [(op, .dict cL),(cm, .dict [(.str [114], .tup [.con (.ref 914), .tup [.ref hl', .ref lg, .ref pl]])]),(hl', .list [.ref x]),(al, .list [])]++(cells ⟨x,ho,op,al,lg,vd,cm,bk,hl',pl,to,il,fi⟩ w0 [] []++ [(bk, .dict [])])) [6,9,0,4,2,7,1,10,3] (by decide) rfl
 obtain ⟨F12,le12,hA,C13⟩:=C12.frzL
 have fzr:cW ⟨x,ho,op,al,lg,vd,cm,bk,hl',pl,to,il,fi⟩ p F12:=
  ⟨hA (op,_) (List.Mem.head _),hA (cm,_) (List.Mem.tail _ (List.Mem.head _)),hA (hl',_) (List.Mem.tail _ (List.Mem.tail _ (List.Mem.head _))),le12 _ _ pl11⟩
 have fal:F12 al=some (.list []):=hA (al,_) (List.Mem.tail _ (List.Mem.tail _ (List.Mem.tail _ (List.Mem.head _))))
 have iv:dj p sh 0 none [] [] w0:=⟨g,hp,Nat.zero_le _,Nat.zero_le _,Or.inl g.n1,Nat.zero_le _,Nat.zero_le _,by decide,fun f h=>nomatch h⟩
 obtain ⟨r,w',hb⟩:=Xk hp 81 sh 0 none [] [] w0 iv (by decide)
 have hlog:w'.log.length≤1000:=Nat.le_trans hb.en.hi (aQ rfl)
 have leA:=leH11.trans le12
 refine wg .n rfl ?_
 refine cu hC (Xp (d:=d+22) (c:=⟨x,ho,op,al,lg,vd,cm,bk,hl',pl,to,il,fi⟩) hb hN hN2 fzr fal C13 (hcd11.mono le12) ?_ ?_)
 ·intro t ht F' H' es vc le' hbk' C'
  subst ht
  refine wg .n rfl ?_
  intro tz htz
  obtain ⟨C14,le14⟩:=C'.newF (.list [.int 0, .str t]) htz
  exact JQ hC (c:=⟨x,ho,op,al,lg,vd,cm,bk,hl',pl,to,il,fi⟩) (ex:=0) hN C14 hbk' (cF _ _ _) (fun f h=>by injection h) hb.law ((sh11.mono le12).mono (le'.trans le14)) (le14 _ _ (le' _ _ (le12 _ _ pl11))) (le14 _ _ (le' _ _ fal)) hlog (fun f h=>by injection h) fun H'' le''=>hQ H'' (leA.trans (le'.trans (le14.trans le'')))
 ·intro f hf F' H' es vc y ex le' hbk' hex C'
  subst hf
  refine wg (.o (C'.at 0 rfl) (.o (C'.at 0 rfl) (.o (C'.at 0 rfl) (.o (C'.at 0 rfl) (.o (C'.at 0 rfl) (.o (C'.at 0 rfl) (.o (C'.at 0 rfl) (.o (C'.at 0 rfl) .n)))))))) rfl ?_
  intro tz htz
  obtain ⟨C14,le14⟩:=C'.newF (.list [.int f.code, .str f.val,je f.ec, .int f.lvl, .int f.ret, .str f.info, .ref ex]) htz
  exact JQ hC (c:=⟨x,ho,op,al,lg,vd,cm,bk,hl',pl,to,il,fi⟩) (r:= .flt f) (ex:=ex) hN C14.drop1 hbk' (cF _ _ _) (fun f' h=>by (injection h with zh;subst zh);exact le14 _ _ hex) hb.law ((sh11.mono le12).mono (le'.trans le14)) (le14 _ _ (le' _ _ (le12 _ _ pl11))) (le14 _ _ (le' _ _ fal)) hlog (fun f' h=>(hb.en.ft f' h).2.2.1) fun H'' le''=>hQ H'' (leA.trans (le'.trans (le14.trans le'')))
noncomputable def Yi:List St:=match (wW.body:List St) with
 | .each _ _ _ b::_=>b
 | _=> []
theorem Yj{N d s0:Nat}{C:aO}(hC:C=au tab N (d+40)){xs:List Int}(hN:200000≤N)(hN2:4 ^ 81+1<N)(hl:xs.length≤63){src:MH→Prop}(hsrc:∀H,src H)(hs:Z9.lst s0=some xs){Q:QS}(hQ:∀loc' H',Q .next loc' H'):
  ∀(ks:List Nat) (tl:Loc) (H:MH),(∀k∈ks,k<3)→cT C N none (.name "number") Yi src (ks.map fun k:Nat=>V.int (k:Int)) (("script", .con (.ref s0))::tl) H Q:=by
 intro ks
 induction ks with
 | nil=>exact fun tl H zz=>fW (hsrc _) (hQ _ H)
 | cons k ks ih=>
  intro tl H hk
  refine fX hC (hsrc _) ?_
  refine wg (.v rfl (.v aP .n)) rfl ?_
  refine cu hC (Yh hN hN2 hs hl (hk k List.mem_cons_self) fun H' le=> ?_)
  refine wg .n rfl ?_
  exact ih _ H' fun x m=>hk x (List.mem_cons_of_mem _ m)
theorem Yk{N d s0:Nat}{xs:List Int}{H:MH}{Q:Q1}{E:E1}(hN:200000≤N)(hN2:4 ^ 81+1<N)(hs:Z9.lst s0=some xs)(hl:xs.length≤63)(hQ:∀H',Q (.bool true) H'):
  au tab N (d+41) none (.con (.ref 973)) [.con (.ref s0)] H Q E:=by
 refine kf wW rfl rfl fun C hC=> ?_
 refine wg .n rfl ?_
 refine Yj hC hN hN2 hl (fun zz=>trivial) hs (fun loc' H'=> ?_) (List.range 3) [] H vy
 refine wg .n rfl ?_
 exact hQ H'
theorem Yl:∃N,∀(s0:Nat) (xs:List Int) (H:MH),Z9.lst s0=some xs→xs.length≤63→au tab N 41 none (.con (.ref 973)) [.con (.ref s0)] H (fun v zz=>v= .bool true) (fun zz zz=>False):=
 ⟨4 ^ 81+200002,fun zz zz zz hs hl=>Yk (d:=0) (Nat.le_trans (aQ rfl) (Nat.le_add_left 200002 _)) (Nat.add_lt_add_left (show 1<200002 from aQ rfl) _) hs hl fun zz=>rfl⟩
end Mine
namespace Mine
open PySem PySem.Calls PyProof.Rows
open PySem.W
theorem rR{α β:Type}[BEq α][LawfulBEq α]{a:α}{b:β}:∀{l:List (α×β)},l.lookup a=some b→(a,b)∈l
 | [],h=>nomatch h
 | (k,v)::r,h=>by
  rw [List.lookup_cons] at h
  cases hb:a==k with
  | true=>rw [hb] at h;cases h;rw [beq_iff_eq.mp hb];exact List.mem_cons_self
  | false=>rw [hb] at h;exact List.mem_cons_of_mem _ (rR h)
theorem Ym:eH.all (fun p=>Nat.ble p.2.params.length 100)=true:=by decide
structure zL(K:Frag):Prop where
 fn:∀a f,eH.lookup a=some f→mC K jT a f=true∧keepIn K (.ref a)=true
 cls:∀a c,tD.lookup a=some c→s6 K a c=true∧keepIn K (.ref a)=true∧eH.lookup a=none∧(eH.lookup c.init).isSome=true
 gl:∀x v,jT.lookup x=some v→tE K (x,v)=true
 law:nsIn K mainGlobals (nm "law")=some (some (.ref 973))
theorem Yn{K:Frag}(h:tH K=true):zL K:=by
 unfold tH at h
 obtain ⟨h,h4⟩:=Bool.and_eq_true_iff.1 h
 obtain ⟨h,h3⟩:=Bool.and_eq_true_iff.1 h
 obtain ⟨h1,h2⟩:=Bool.and_eq_true_iff.1 h
 refine ⟨fun a f e=>Bool.and_eq_true_iff.1 (List.all_eq_true.1 h4 _ (rR e)),fun a c e=> ?_,fun x v e=>List.all_eq_true.1 h2 _ (rR e),eq_of_beq h3⟩
 obtain ⟨k,k4⟩:=Bool.and_eq_true_iff.1 (List.all_eq_true.1 h1 _ (rR e))
 obtain ⟨k,k3⟩:=Bool.and_eq_true_iff.1 k
 obtain ⟨k1,k2⟩:=Bool.and_eq_true_iff.1 k
 exact ⟨k1,k2,Option.isNone_iff_eq_none.1 k3,k4⟩
section
variable[Z9]
theorem Yo{K:Frag}(h:zL K):xP K tab:=
 ⟨fun a f e=>Ti (T:=tab) rfl (h.fn a f e).1,fun a c e=>(Gn (T:=tab) (h.cls a c e).1 (h.cls a c e).2.2.2).2,
  fun a f e=>Nat.le_of_ble_eq_true (List.all_eq_true.1 Ym _ (rR e)),fun a e=>(Option.isSome_iff_exists.1 e).elim fun c hc=>(h.cls a c hc).2.2.1⟩
theorem Yp{prog:Program}{w:World}{YC:Heap}{K:Frag}(ok:zL K){mg mb:Str→Option Value}(X:K.In YC)(lim:YC.NoLimit)(g:YC.Ns mainGlobals mg)(b:YC.Ns builtinsNs mb)(bb:∀x:Str,x≠"__name__"→mb x=bootBuiltins x)
  (big:∃a o,sysModules<a∧YC.get? a=some o) (lst:qp YC tab):Gd prog w YC K tab:=by
 refine ⟨X,lim,big,⟨mg,mb,g,b,fun x v h=> ?_⟩,fun c k h=>(Gn (T:=tab) (ok.cls c k h).1 (ok.cls c k h).2.2.2).1,lst,fun a h=> ?_⟩
 ·have q:=ok.gl x v h
  unfold tE at q
  obtain ⟨q1,q2⟩:=Bool.and_eq_true_iff.1 q
  refine ⟨q1, ?_⟩
  split at q2
  ·rename_i u hu
   cases eq_of_beq q2
   exact .inl (mg_of X g hu)
  ·rename_i hu
   rw [Bool.and_eq_true,beq_iff_eq,Bool.not_eq_true',beq_eq_false_iff_ne] at q2
   exact .inr ⟨ns_none_of X g hu,(bb _ q2.2).trans q2.1⟩
  ·cases q2
 ·rcases Bool.or_eq_true_iff.1 h with h | h
  ·obtain ⟨f,hf⟩:=Option.isSome_iff_exists.1 h
   exact (ok.fn a f hf).2
  ·obtain ⟨c,hc⟩:=Option.isSome_iff_exists.1 h
   exact (ok.cls a c hc).2.1
end
theorem Yq{vs:List Value}{ns:List Int}(h:IntsAre vs ns)(own:ak)(hp:Heap):aB own hp (ns.map V.int) vs:=by
 induction h with
 | nil=>exact .nil
 | cons n t _ ih=>exact .cons (.int n t) ih
end Mine
open PySem PySem.W PyProof.Rows Mine
set_option tactic.hygienic true in
theorem PySem.Challenge.cw_np0150_01_holds : PySem.Challenge.rw_np0150_01.Holds := by
 exact Mw (by
 intro w s₀ s₁ mg mb G Y fa o pm cd doc dV kV ho hdd hcd hD hmg hg args YG as hpre hlay hrd hwl hlo
 obtain ⟨K,ck,KX⟩:=Y
 have ok:=Yn ck
 refine Ground.open G ?_
 intro T B D TE TW
 wrow_args hpre hlay hrd hwl hlo
 rename_i ns _ _ _ _ _ _ _ sA its _ hL _ _ _ hI _ hcond _
 have hlen:ns.length≤63:=by omega
 have hfa:fa=973:=by
  have h1:=mg_of KX T.g ok.law
  have h2:mg (nm "law")=some (.ref fa):=hmg
  rw [h1] at h2
  cases h2;rfl
 subst hfa
 let Z:Z9:=⟨fun a=>if a=sA then some ns else none⟩
 have lst:qp s₁.heap (@tab Z):=by
  intro a xs h
  have h':(if a=sA then some ns else none)=some xs:=h
  split at h'
  ·rename_i e
   subst e
   cases h'
   exact ⟨_,hL,fun own hp=>Yq hI own hp⟩
  ·cases h'
 have Gd0:= @Yp Z (model PySem.Challenge.rw_np0150_01.row.prog w).prog w s₁.heap K ok mg mb KX T.nolimit T.g T.b T.builtins ⟨973,o,by decide,ho⟩ lst
 obtain ⟨N,hN⟩:= @Yl Z
 have hcall:=hN sA ns (fun zz=>none) (by show (if sA=sA then _ else _)=_;rw [if_pos rfl]) hlen
 obtain ⟨_,hrun⟩:=(Tc Gd0 (@Yo Z K ok) N 41).1 none (.con (.ref 973)) [.con (.ref sA)] (fun zz=>none) _ _ hcall
 refine hrun callerA [] (fun zz=>none) s₁ (.ref 973) [.ref sA] _ _ ⟨⟨rfl,rfl,by decide,by decide⟩,(fun zz m=>nomatch m),(fun zz e=>nomatch e),⟨fun zz zz e=>e,fun zz zz zz=>rfl,(fun zz zz e=>nomatch e)⟩⟩ (.con rfl) (.cons (.con rfl) .nil) ?_ ?_
 ·intro v H' YD h' tk val hv O X r
  subst hv
  cases r
  exact ⟨.inl ⟨.bool true, .bool true,[],rfl,fun zz=>rfl, .bool _,(by kernel_rfl),fun zz=>⟨List.nodup_nil,fun zz m=>nomatch m⟩⟩, .of_keep O.base,rfl, .of_eq hg⟩
 ·intro a H' YD h' tk hE
  exact hE.elim)
