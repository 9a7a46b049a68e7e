import PyProof.Rows.All
import Wide.All
import OpenK.AllK
import Wide.FinOn
import PySem.Challenge.RW_pq1202_01
set_option Elab.async false
set_option maxRecDepth 100000
set_option maxHeartbeats 0
set_option linter.all false
set_option bootstrap.genMatcherCode false
set_option genInjectivity false
set_option genSizeOf false
set_option tactic.hygienic false
noncomputable section
namespace Mine
namespace Tactic
abbrev bc{α:Type}(b:Bool)(x y:α):α:= @Bool.rec (λ_=>α) y x b
abbrev oc{α β:Type}(o:Option α)(n:β)(k:α->β):β:= @Option.rec α (λ_=>β) n k o
structure LI where
 c:Int
 t:List (Nat×Int)
noncomputable def eqT:List (Nat×Int)->List (Nat×Int)->Bool
 | [],[]=>true
 |(i,a)::x,(j,b)::y=>Nat.beq i j&&(decide (a=b)&&eqT x y)
 |_,_=>false
def XdT(i:Nat)(a:Int):List (Nat×Int)->List (Nat×Int)
 | []=>[(i,a)]
 |x::r=>bc (Nat.blt i x.1) ((i,a)::x::r) (bc (Nat.beq i x.1) (bc (decide (a + x.2=0)) r ((i,a + x.2)::r)) (x::XdT i a r))
def WM:List (Nat×Int)->List (Nat×Int)->List (Nat×Int)
 | [],y=>y
 |(i,a)::r,y=>XdT i a (WM r y)
def Xfz(x y:List (Nat×Int)):List (Nat×Int):= @List.rec _ (λ_=>List (Nat×Int)) y (λ_ _ _=>WM x y) x
def Gd(k:Int):List (Nat×Int)->List (Nat×Int)
 | []=>[]
 |(i,a)::r=>(i,k * a)::Gd k r
def Xn(c:Int):LI:=⟨c,[]⟩
def LI.add(a b:LI):LI:=⟨Int.add a.c b.c,Xfz a.t b.t⟩
def LI.smul(k:Int)(a:LI):LI:= @List.rec _ (λ_=>LI) ⟨Int.mul k a.c,[]⟩ (λ_ _ _=>bc (decide (k=0)) ⟨0,[]⟩ ⟨k * a.c,Gd k a.t⟩) a.t
def LI.sub(a b:LI):LI:=⟨Int.sub a.c b.c,@List.rec _ (λ_=>List (Nat×Int)) a.t (λ_ _ _=>WM a.t (Gd (-1) b.t)) b.t⟩
def LI.lit?(a:LI):Option Int:= @List.rec _ (λ_=>Option Int) (some a.c) (λ_ _ _=>none) a.t
def nn(i:Int):Bool:= @Int.rec (λ_=>Bool) (λ_=>true) (λ_=>false) i
def zz(i:Int):Bool:= @Int.rec (λ_=>Bool) (λn=>Nat.beq n 0) (λ_=>false) i
noncomputable abbrev XA:=List (List (Nat×Int)×Int×Bool)
def WP:XA->List (Nat×Int)->Int->Option Bool
 | [],_,_=>none
 |x::r,u,e=>bc (eqT x.1 u) (bc x.2.2 (bc (decide (x.2.1<=e)) (some true) (WP r u e)) (bc (decide (e<=x.2.1)) (some false) (WP r u e))) (WP r u e)
def Wx(F:XA)(a:LI):Option Bool:= @List.rec _ (λ_=>Option Bool) (some (nn a.c)) (λ_ _ _=>WP F a.t a.c) a.t
def JP(F:XA)(a b:LI):Option Bool:=Wx F (b.sub a)
def Ow(F:XA)(a b:LI):Option Bool:=Wx F ((b.sub a).add ⟨-1,[]⟩)
def noF(o:Option Bool)(d:Option Bool):Option Bool:=oc o d λb=>bc b d (some false)
def eqS(F:XA)(a b:LI):Option Bool:=noF (Wx F (a.sub b)) (noF (Wx F (b.sub a)) none)
def eqL(F:XA)(a b:LI):Option Bool:= @List.rec _ (λ_=>Option Bool) (some (zz (a.sub b).c)) (λ_ _ _=>eqS F a b) (a.sub b).t
inductive V where
 |none
 |bool (b:Bool)
 |int (i:LI)
 |str (s:Nat)
 |bytes (b:List Nat)
 |ref (i:Nat)
 |fn (a:Nat)
 |cls (a:Nat)
 |bi (n:Nat)
 |cond (a:LI)
inductive O where
 |inst (c:Nat) (d:Nat)
 |flds (c:Nat) (l:List (Nat×V))
 |list (l:List V)
 |tup (l:List V)
 |idict (l:List (Int×V))
 |barr
 |wheel (es:List (Int×LI×Int)) (reached:Option LI) (given:Int)
 |src (l:List (Int×LI))
inductive Tr where
 |nil
 |node (v:Option O) (l r:Tr)
def Tr.get(t:Tr):Nat->Option O:=
 @Tr.rec (λ_=>Nat->Option O) (λ_=>Option.none) (λv _ _ gl gr i=>bc (Nat.beq i 0) v (bc (Nat.beq (Nat.land i 1) 1) (gl (Nat.shiftRight i 1)) (gr (Nat.sub (Nat.shiftRight i 1) 1)))) t
def Tr.lay(f:Nat)(o:O):Nat->Tr:=
 @Nat.rec (λ_=>Nat->Tr) (λ_=> .nil) (λ_ g i=>bc (Nat.beq i 0) (.node (some o) .nil .nil) (bc (Nat.beq (Nat.land i 1) 1) (.node Option.none (g (Nat.shiftRight i 1)) .nil) (.node Option.none .nil (g (Nat.sub (Nat.shiftRight i 1) 1))))) f
def Tr.set(t:Tr)(o:O):Nat->Tr:=
 @Tr.rec (λ_=>Nat->Tr) (λi=>Tr.lay 16 o i) (λv l r gl gr i=>bc (Nat.beq i 0) (.node (some o) l r) (bc (Nat.beq (Nat.land i 1) 1) (.node v (gl (Nat.shiftRight i 1)) r) (.node v l (gr (Nat.sub (Nat.shiftRight i 1) 1))))) t
structure St where
 h:Tr
 n:Nat
abbrev St.get(s:St)(i:Nat):Option O:=s.h.get i
def St.put(s:St)(i:Nat)(o:O):St:=⟨s.h.set o i,s.n⟩
noncomputable abbrev YG:=List (Nat×V)
def Xh{α:Type}(l:List (Nat×α))(i:Nat):Option α:=
 @List.rec _ (λ_=>Option α) Option.none (λp _ ih=>bc (Nat.beq p.1 i) (some p.2) ih) l
def XM{α:Type}(l:List (Nat×α))(i:Nat)(v:α):List (Nat×α):=
 @List.rec _ (λ_=>List (Nat×α)) [(i,v)] (λp r ih=>bc (Nat.beq p.1 i) ((p.1,v)::r) (p::ih)) l
def Y8{α:Type}:List (Int×α)->Int->Option α
 | [],_=>none
 |x::r,i=>bc (decide (x.1=i)) (some x.2) (Y8 r i)
def Iq{α:Type}:List (Int×α)->Int->α->List (Int×α)
 | [],i,v=>[(i,v)]
 |x::r,i,v=>bc (decide (x.1=i)) ((x.1,v)::r) (x::Iq r i v)
def Ij{α:Type}:List (Int×α)->Int->List (Int×α)
 | [],_=>[]
 |x::r,i=>bc (decide (x.1=i)) r (x::Ij r i)
def Zn{α:Type}(l:List α):Nat->Option α:=
 @List.rec _ (λ_=>Nat->Option α) (λ_=>Option.none) (λx _ ih n=>bc (Nat.beq n 0) (some x) (ih (Nat.sub n 1))) l
def eqB:List Nat->List Nat->Bool
 | [],[]=>true
 |a::x,b::y=>Nat.beq a b&&eqB x y
 |_,_=>false
def Uy{α:Type}(l:List α):Nat:= @List.rec _ (λ_=>Nat) 0 (λ_ _ n=>Nat.add n 1) l
def Wy{α:Type}(l:List α):Bool:= @List.rec _ (λ_=>Bool) false (λ_ _ _=>true) l
def XU{α:Type}(l:List α):Bool:=Nat.ble (Uy l) 60000
def b2i(b:Bool):Int:=match b with
 |true=>1
 |false=>0
def Xbh(q:V->V->Option Bool):List V->List V->Option Bool
 | [],[]=>some true
 |a::x,b::y=>oc (q a b) none λp=>oc (Xbh q x y) none λr=>some (p&&r)
 |_,_=>none
def eqR(q:V->V->Option Bool)(a b:Option O):Option Bool:=match a,b with
 |some (.list x),some (.list y)=>bc (Nat.beq x.length y.length) (Xbh q x y) (some false)
 |some (.tup x),some (.tup y)=>Xbh q x y
 |_,_=>none
def Xdc(F:XA)(q:Nat->Nat->Option Bool)(a b:V):Option Bool:=match a,b with
  | .int x,.int y=>eqL F x y
  | .bool x,.bool y=>some (x == y)
  | .none,.none=>some true
  | .none,.int _=>some false
  | .int _,.none=>some false
  | .none,.str _=>some false
  | .str _,.none=>some false
  | .str x,.str y=>some (Nat.beq x y)
  | .bytes x,.bytes y=>some (eqB x y)
  | .ref i,.ref j=>q i j
  |_,_=>none
def eqV(F:XA)(s:St):Nat->V->V->Option Bool
 | 0,a,b=>Xdc F (λ_ _=>none) a b
 |f + 1,a,b=>Xdc F (λi j=>bc (Nat.beq i j) none (eqR (eqV F s f) (s.get i) (s.get j))) a b
def Xfb:Option O->Option Bool
 |some (.list l)=>bc (XU l) (some (Wy l)) none
 |some (.tup l)=>bc (XU l) (some (Wy l)) none
 |_=>none
def Id(s:St):V->Option Bool
 | .none=>some false
 | .bool b=>some b
 | .int i=>i.lit?.map λc=> !(zz c)
 | .bytes b=>bc (XU b) (some (Wy b)) none
 | .ref i=>Xfb (s.get i)
 |_=>none
def Zl:V->Option LI
 | .int i=>some i
 |_=>none
def Xp9:V->Option LI
 | .int i=>some i
 | .bool b=>some (Xn (b2i b))
 |_=>none
def iK{α:Type}(v:V)(d:α)(k:LI->α):α:=match v with
 | .int x=>k x
 |_=>d
def rK{α:Type}(v:V)(d:α)(k:Nat->α):α:=match v with
 | .ref x=>k x
 |_=>d
def lK{α:Type}(o:Option O)(d:α)(k:List V->α):α:=oc o d λx=>match x with
 | .list l=>k l
 |_=>d
def h1{α:Type}(l:List V)(d:α)(k:V->α):α:= @List.rec V (λ_=>α) d (λv r _=> @List.rec V (λ_=>α) (k v) (λ_ _ _=>d) r) l
def hd{α:Type}(l:List V)(d:α)(k:V->List V->α):α:= @List.rec V (λ_=>α) d (λv r _=>k v r) l
def bK{α:Type}(v:V)(d:α)(k:Bool->α):α:=match v with
 | .bool x=>k x
 |_=>d
def aK{α:Type}(v:V)(d:α)(k:Nat->α):α:=match v with
 | .fn x=>k x
 |_=>d
inductive Xu where
 |no
 |ok (v:V) (s:St)
inductive Yj where
 |no
 |ok (v:List V) (s:St)
inductive ZI where
 |no
 |ok (b:Bool) (s:St)
inductive Zk where
 |no
 |next (l:YG) (s:St)
 |ret (v:V) (s:St)
abbrev Xu.to{α:Type}(x:Xu)(n:α)(k:V->St->α):α:= @Xu.rec (λ_=>α) n k x
abbrev Yj.to{α:Type}(x:Yj)(n:α)(k:List V->St->α):α:= @Yj.rec (λ_=>α) n k x
abbrev ZI.to{α:Type}(x:ZI)(n:α)(k:Bool->St->α):α:= @ZI.rec (λ_=>α) n k x
abbrev YS(o:Option V)(s:St):Xu:= @Option.rec V (λ_=>Xu) .no (λv=> .ok v s) o
abbrev NV(o:Option Bool)(s:St):ZI:= @Option.rec Bool (λ_=>ZI) .no (λv=> .ok v s) o
def UU(s:St)(o:O):Xu:= .ok (.ref s.n) ⟨s.h.set o s.n,Nat.add s.n 1⟩
def Nd(s:St)(l:List V):Xu:=bc (XU l) (UU s (.list l)) .no
def Xor(s:St)(l:List V):Xu:=bc (XU l) (UU s (.tup l)) .no
def Xbz(n:Nat)(s:St):Xu:=bc (Nat.ble n 60000) (.ok (.int (Xn (Int.ofNat n))) s) .no
def Mv(b:List Nat)(s:St):Xu:=bc (XU b) (.ok (.bytes b) s) .no
def U2(i:Int):Bool:= @Int.rec (λ_=>Bool) (λn=>Nat.ble n 1073741823) (λn=>Nat.ble n 1073741822) i
def Up(i:Int):Bool:= @Int.rec (λ_=>Bool) (λn=>Nat.ble n 4611686018427387903) (λn=>Nat.ble n 4611686018427387902) i
def XrT(x y:Int):Option LI:=bc (nn (y - 1)) (bc (U2 y) (some (Xn (Int.fdiv x y))) none) none
def Xsk(x y:Int):Option LI:=bc (nn (y - 1)) (some (Xn (Int.fmod x y))) none
def Xpn(x y:Int):Option LI:= @Int.rec (λ_=>Option LI) (λb=>bc (Nat.ble b 30) (bc (U2 x) (some (Xn (x ^ b))) none) none) (λ_=>none) y
def Xd6(op:Nat)(x y:Int):Option LI:=match op with
 | 3=>XrT x y
 | 4=>Xsk x y
 | 5=>Xpn x y
 | 6=>bc (nn y) (some (Xn (Int.fdiv x (2 ^ y.toNat)))) none
 | 7=>some (Xn (PySem.Builtin.bitAnd x y))
 | 8=>some (Xn (PySem.Builtin.bitOr x y))
 |_=>none
def XbI(a b:LI):Option LI:=match a.lit? with
 |some k=>bc (Up k) (some (b.smul k)) none
 |none=>match b.lit? with
  |some k=>bc (Up k) (some (a.smul k)) none
  |none=>none
noncomputable abbrev Oz:=List (Nat×LI×LI×LI)
def Wh(a b:LI):Bool:=decide (a.c=b.c)&&eqT a.t b.t
def WQ:Oz->Nat->LI->LI->Option LI
 | [],_,_,_=>none
 |z::g,op,x,y=>bc (Nat.beq z.1 op&&(Wh z.2.1 x&&Wh z.2.2.1 y)) (some z.2.2.2) (WQ g op x y)
def XcK(op:Nat)(a b:LI):Option LI:=match op with
 | 2=>XbI a b
 |_=>oc a.lit? none λx=>oc b.lit? none λy=>Xd6 op x y
def ZD(G:Oz)(op:Nat)(a b:LI):Option LI:=match op with
 | 0=>some (a.add b)
 | 1=>some (a.sub b)
 |_=> @Option.rec LI (λ_=>Option LI) (WQ G op a b) (λr=>some r) (XcK op a b)
def Xkx(s:St):Option O->Option O->Xu
 |some (.list x),some (.list y)=>Nd s (x++y)
 |_,_=> .no
def XpM(s:St)(k:Option Int):Option O->Xu
 |some (.list x)=>match k with
  |some (.ofNat k)=>bc (Nat.ble k 60) (Nd s (List.flatten (List.replicate k x))) .no
  |_=> .no
 |_=> .no
def XfT(G:Oz)(op:Nat)(s:St)(a b:V):Xu:=oc (Zl a) .no λx=>oc (Zl b) .no λy=>oc (ZD G op x y) .no λz=> .ok (.int z) s
def Xkj(G:Oz)(op:Nat)(s:St)(a b:V):Xu:=match a with
 | .bytes x=>match b with
  | .bytes y=>bc (Nat.beq op 0) (Mv (x++y) s) .no
  |_=> .no
 | .ref i=>match b with
  | .ref j=>bc (Nat.beq op 0) (Xkx s (s.get i) (s.get j)) .no
  | .int k=>bc (Nat.beq op 2) (XpM s k.lit? (s.get i)) .no
  |_=> .no
 |a=>XfT G op s a b
def Z1:V->Bool
 | .none=>true
 |_=>false
def OU(F:XA)(s:St)(a:V):List V->Option Bool
 | []=>some false
 |x::r=>oc (eqV F s 0 x a) none λp=>oc (OU F s a r) none λq=>some (p||q)
def inO(F:XA)(s:St)(a:V):Option O->Option Bool
 |some (.idict l)=>match a with
  | .int k=>k.lit?.map λk=>(Y8 l k).isSome
  |_=>none
 |some (.list l)=>OU F s a l
 |some (.tup l)=>OU F s a l
 |_=>none
def inV(F:XA)(s:St)(a b:V):Option Bool:=match b with
 | .ref j=>inO F s a (s.get j)
 |_=>none
def Xli(F:XA)(op:Nat)(x y:LI):Option Bool:=match op with
 | 2=>Ow F x y
 | 3=>JP F x y
 | 4=>Ow F y x
 | 5=>JP F y x
 |_=>none
def Ux(F:XA)(op:Nat)(s:St)(a b:V):Option Bool:=match op with
 | 0=>eqV F s 2 a b
 | 1=>(eqV F s 2 a b).map (!·)
 | 6=>bc (Z1 b) (some (Z1 a)) none
 | 7=>bc (Z1 b) (some (!(Z1 a))) none
 | 8=>inV F s a b
 |_=>oc (Zl a) none λx=>oc (Zl b) none λy=>Xli F op x y
def XdQ{α:Type}(l:List α)(k:LI):Option α:=oc k.lit? none λk=> @Int.rec (λ_=>Option α) (λn=>bc (Nat.ble n 60000) (Zn l n) none) (λ_=>none) k
def Gs(k:LI):Option O->Option V
 |some (.list l)=>XdQ l k
 |some (.tup l)=>XdQ l k
 |some (.idict l)=>match k.lit? with
  |some k=>Y8 l k
  |none=>none
 |_=>none
def Xe5(s:St)(a i:V):Option V:=rK a none λj=>iK i none λk=>Gs k (s.get j)
def MA(n:Nat)(k:Int):Nat:=match k with
 | .ofNat m=>bc (Nat.ble m n) m n
 | .negSucc m=>Nat.sub n (Nat.add m 1)
def XnI(b:List Nat)(i j:Nat):V:= .bytes ((b.take j).drop i)
def KJ(n d:Nat):Option LI->Option Nat
 |none=>some d
 |some k=>k.lit?.map (MA n)
def U1(a:V)(lo hi:Option LI):Option V:=match a with
 | .bytes b=>bc (XU b) (oc (KJ b.length 0 lo) none λi=>oc (KJ b.length b.length hi) none λj=>some (XnI b i j)) none
 |_=>none
def OL(F:XA)(m:LI):List V->Option LI
 | []=>some m
 |v::r=>iK v none λx=>oc (Ow F x m) none λb=>bc b (OL F x r) (OL F m r)
def D9(F:XA)(m:LI):List V->Option LI
 | []=>some m
 |v::r=>iK v none λx=>oc (Ow F m x) none λb=>bc b (D9 F x r) (D9 F m r)
def Xk4(o:Option Int)(k:Nat->Option (List Nat)):Option (List Nat):=oc o none λz=> @Int.rec (λ_=>Option (List Nat)) (λn=>bc (Nat.ble n 255) (k n) none) (λ_=>none) z
def Xk5(v:V)(k:Nat->Option (List Nat)):Option (List Nat):=iK v none λz=>Xk4 z.lit? k
def Ui:List V->Option (List Nat)
 | []=>some []
 |v::r=>Xk5 v λn=>oc (Ui r) none λl=>some (n::l)
def Xk0(s:St):Option O->Xu
 |some (.list l)=>Xbz (Uy l) s
 |some .barr=> .ok (.int (Xn 0)) s
 |_=> .no
def XhW(s:St):List V->Xu
 | [.bytes b]=>Xbz (Uy b) s
 | [.ref i]=>Xk0 s (s.get i)
 |_=> .no
def XcG(F:XA)(s:St)(l:List V):Xu:=hd l .no λv r=>iK v .no λx=>bc (Nat.beq (Uy r) 1||Nat.beq (Uy r) 2) (oc (OL F x r) .no λm=> .ok (.int m) s) .no
def XcE(F:XA)(s:St)(l:List V):Xu:=hd l .no λv r=>iK v .no λx=>bc (Nat.beq (Uy r) 1) (oc (D9 F x r) .no λm=> .ok (.int m) s) .no
def XhV(s:St):List V->Xu
 | [v]=>oc (Xp9 v) .no λx=> .ok (.int x) s
 |_=> .no
def Xks(s:St)(o:Option O):Xu:=lK o .no λl=>oc (Ui l) .no λb=>Mv b s
def DL(s:St):List V->Xu
 | [.bytes b]=>Mv b s
 | [.ref i]=>Xks s (s.get i)
 |_=> .no
def UO{α:Type}:List (Int×α)->List V
 | []=>[]
 |(k,_)::r=> .int (Xn k)::UO r
def Xas(s:St):Option O->Xu
 |some (.list l)=>Nd s l
 |some (.idict l)=>Nd s (UO l)
 |_=> .no
def Gq(s:St)(o:Option O):Xu:=lK o .no λl=>bc (Nat.ble (Uy l) 1) (UU s (.list l)) .no
def XfS(f:Option O->Xu)(s:St)(l:List V):Xu:=h1 l .no λv=>rK v .no λi=>f (s.get i)
def Xnh(s:St):List V->Xu
 | []=>UU s .barr
 |_=> .no
def biV(F:XA)(n:Nat)(vs:List V)(s:St):Xu:=match n with
 | 0=>XhW s vs
 | 1=>XcG F s vs
 | 2=>XcE F s vs
 | 3=>XhV s vs
 | 4=>DL s vs
 | 6=>XfS (Xas s) s vs
 | 7=>XfS (Gq s) s vs
 | 8=>Xnh s vs
 |_=> .no
def UF:List V->Bool
 | []=>true
 |v::r=>iK v false λ_=>UF r
def Bs(k:Int):List V->Option (List V)
 | []=>none
 |v::r=>iK v none λi=>oc i.lit? none λc=>bc (decide (c=k)) (some r) (oc (Bs k r) none λl=>some (.int i::l))
def XpL(a:V)(l:List V):Option (List V):=iK a none λi=>oc i.lit? none λk=>bc (XU l&&UF l) (Bs k l) none
def XrV(s:St)(i:Nat)(l:List V):Option O->Xu
 |some (.list m)=>bc (XU (l++m)) (.ok .none (s.put i (.list (l++m)))) .no
 |_=> .no
def Xpk(s:St)(i:Nat)(l:List (Int×V))(k:Int):Xu:=oc (Y8 l k) .no λv=> .ok v (s.put i (.idict (Ij l k)))
def WW(i:Nat)(n:Nat)(args:List V)(s:St)(o:Option O):Xu:=lK o .no λl=>bc (Nat.beq n 0) (h1 args .no λv=>bc (XU l) (.ok .none (s.put i (.list (l++[v])))) .no)
 (bc (Nat.beq n 1) (h1 args .no λv=>rK v .no λj=>XrV s i l (s.get j))
 (bc (Nat.beq n 2) (h1 args .no λv=>oc (XpL v l) .no λm=> .ok .none (s.put i (.list m))) .no))
def Iz(i:Nat)(n:Nat)(args:List V)(s:St):Option O->Xu
 |some (.idict l)=>bc (Nat.beq n 3) (h1 args .no λv=>iK v .no λk=>oc k.lit? .no λk=>bc (XU l) (Xpk s i l k) .no) .no
 |_=> .no
noncomputable def IR:List Nat->List V->Option YG
 | [],[]=>some []
 |p::ps,d::ds=>(IR ps ds).map ((p,d)::·)
 |_,_=>none
noncomputable def Jg:List Nat->List V->List V->Option YG
 | [],[],_=>some []
 |p::ps,a::as,ds=>(Jg ps as ds).map ((p,a)::·)
 |p::ps,[],ds=>IR (p::ps) (ds.drop (ds.length - (ps.length + 1)))
 | [],_::_,_=>none
def Zp:YG->List Nat->List V->Option YG
 |l,[],[]=>some l
 |l,n::ns,v::vs=>Zp (XM l n v) ns vs
 |_,_,_=>none
def XI(a:LI):Nat->List V
 | 0=>[]
 |n + 1=> .int a::XI (a.add (Xn 1)) n
def Uo(F:XA)(a:LI):Bool:=bc (oc (JP F ⟨-1099511627776,[]⟩ a) false λb=>b) (oc (JP F a ⟨1099511627776,[]⟩) false λb=>b) false
def Nk(F:XA)(a:LI)(k:Option Int):Option (List V):=match k with
 |some (.ofNat n)=>bc (Uo F a) (bc (Nat.ble n 60000) (some (XI a n)) none) none
 |_=>none
def Yo(F:XA)(l:List V):Option (List V):=hd l none λv r=>iK v none λa=>bc (Wy r) (h1 r none λw=>iK w none λb=>Nk F a (b.sub a).lit?) (Nk F (Xn 0) a.lit?)
def It:Option O->Option (List V)
 |some (.tup l)=>some l
 |_=>none
def Du(s:St):V->Option (List V)
 | .ref i=>It (s.get i)
 |_=>none
noncomputable abbrev Je:=V->List V->St->Xu
inductive BT(α:Type) where
 |leaf (i:Nat) (v:α)
 |node (i:Nat) (l r:BT α)
def BT.get{α:Type}(t:BT α)(a:Nat):Option α:= @BT.rec α (λ_=>Option α) (λi v=>bc (Nat.beq a i) (some v) none) (λi _ _ l r=>bc (Nat.ble a i) l r) t
def BT.all{α:Type}:BT α->List (Nat×α)
 | .leaf i v=>[(i,v)]
 | .node _ l r=>l.all++r.all
def WX(m n:Nat):Bool:=Nat.beq (Nat.land (Nat.shiftRight m n) 1) 1
structure Ig where
 init:Nat
 meths:List (Nat×Nat)
 props:List (Nat×Nat)
 mask:Nat
structure K where
 F:XA
 G:Oz
 cls:Nat->Option Ig
 wheelC:Nat
 call:Je
noncomputable abbrev M:=K->YG->St->Xu
noncomputable abbrev MB:=K->YG->St->ZI
noncomputable abbrev MS:=K->YG->St->Zk
def XD:M:=λ_ _ s=> .ok .none s
def XE(b:Bool):M:=λ_ _ s=> .ok (.bool b) s
def Xf(i:Int):M:=λ_ _ s=> .ok (.int ⟨i,[]⟩) s
def Ju(k:Nat):M:=λ_ _ s=> .ok (.str k) s
def Jn(b:List Nat):M:=λ_ _ s=> .ok (.bytes b) s
def Xb(n:Nat):M:=λ_ l s=>YS (Xh l n) s
def Xv(v:V):M:=λ_ _ s=> .ok v s
def Oh(k:K)(i n:Nat)(s:St)(c:Option Ig):Xu:=oc c .no λc=>oc (Xh c.props n) .no λa=>k.call (.fn a) [.ref i] s
def MN(k:K)(i n c:Nat)(s:St):Option O->Xu
 |some (.flds c' fs)=>bc (Nat.beq c c') (@Option.rec V (λ_=>Xu) (Oh k i n s (k.cls c)) (λv=> .ok v s) (Xh fs n)) .no
 |_=> .no
def MW(k:K)(i n:Nat)(s:St):Option O->Xu
 |some (.inst c d)=>MN k i n c s (s.get d)
 |_=> .no
def Kk(k:K)(n:Nat)(v:V)(s:St):Xu:=match v with
 | .ref i=>MW k i n s (s.get i)
 |_=> .no
def Xj(e:M)(n:Nat):M:=λk l s=>(e k l s).to .no (Kk k n)
abbrev sA(i:Nat):M:=Xj (Xb 9) i
def Xe:K->YG->St->Yj:=λ_ _ s=> .ok [] s
def Xa(e:M)(r:K->YG->St->Yj):K->YG->St->Yj:=λk l s=>
 (e k l s).to .no λv s=>(r k l s).to .no λvs s=> .ok (v::vs) s
noncomputable abbrev ML:=K->YG->St->Yj
def Xk(f:V)(as:ML):M:=λk l s=>(as k l s).to .no (k.call f)
def YI(n:Nat)(as:ML):M:=λk l s=>(as k l s).to .no (biV k.F n)
def DO(F:XA)(vs:List V)(s:St):Xu:=oc (Yo F vs) .no λits=>oc (Ui its) .no λb=>Mv b s
def JB(as:ML):M:=λk l s=>(as k l s).to .no (DO k.F)
def IF(n:Nat):Option O->Bool
 |some (.flds _ fs)=> @Option.rec V (λ_=>Bool) true (λ_=>false) (Xh fs n)
 |_=>false
def Uk(k:K)(as:ML)(n i:Nat)(l:YG)(s:St)(c:Option Ig):Xu:=
 oc c .no λc=>oc (Xh c.meths n) .no λa=>(as k l s).to .no λvs s=>k.call (.fn a) (.ref i::vs) s
def De(k:K)(as:ML)(n i:Nat)(l:YG)(s:St):Option O->Xu
 |some (.inst c d)=>bc (IF n (s.get d)) (Uk k as n i l s (k.cls c)) .no
 |some (.wheel ..)=>Uk k as n i l s (k.cls k.wheelC)
 |some (.list _)=>(as k l s).to .no λvs s=>WW i n vs s (s.get i)
 |some (.idict _)=>(as k l s).to .no λvs s=>Iz i n vs s (s.get i)
 |_=> .no
def Xjy(k:K)(as:ML)(n:Nat)(l:YG)(v:V)(s:St):Xu:=match v with
 | .ref i=>De k as n i l s (s.get i)
 |_=> .no
def Xi(e:M)(n:Nat)(as:ML):M:=λk l s=>(e k l s).to .no (Xjy k as n l)
def Xo(op:Nat)(a b:M):M:=λk l s=>(a k l s).to .no λx s=>(b k l s).to .no λy s=>Xkj k.G op s x y
def Ba(e:M):M:=λk l s=>(e k l s).to .no λv s=>oc (Id s v) .no λb=> .ok (.bool (!b)) s
def Xsm(v:V)(s:St):Xu:=match v with
 | .int i=> .ok (.int (i.smul (-1))) s
 |_=> .no
def Xd9(e:M):M:=λk l s=>(e k l s).to .no Xsm
def B9(F:XA)(op:Nat)(s:St)(a b:V):Xu:=match op with
 | 0=>oc (Zl a) .no λx=>oc (Zl b) .no λy=>oc (Wx F (x.sub y)) .no λc=>bc c (.ok (.cond (y.sub x)) s) .no
 |_=> .no
def XrS(F:XA)(op:Nat)(s:St)(a b:V):Xu:= @Option.rec Bool (λ_=>Xu) (B9 F op s a b) (λb=> .ok (.bool b) s) (Ux F op s a b)
def YQ(op:Nat)(a b:M):M:=λk l s=>(a k l s).to .no λx s=>(b k l s).to .no λy s=>XrS k.F op s x y
def Uz(a b:M):M:=λk l s=>(a k l s).to .no λv s=>oc (Id s v) .no λc=>bc c (b k l s) (.ok v s)
def mOr(a b:M):M:=λk l s=>(a k l s).to .no λv s=>oc (Id s v) .no λc=>bc c (.ok v s) (b k l s)
def Jt(t:MB)(a b:M):M:=λk l s=>(t k l s).to .no λc s=>bc c (a k l s) (b k l s)
def Yg(as:ML):M:=λk l s=>(as k l s).to .no λvs s=>Xor s vs
def Yx(as:ML):M:=λk l s=>(as k l s).to .no λvs s=>Nd s vs
def M9:M:=λ_ _ s=>UU s (.idict [])
def Yv(a i:M):M:=λk l s=>(a k l s).to .no λx s=>(i k l s).to .no λy s=>YS (Xe5 s x y) s
def Zm(a:M)(lo hi:Option M):M:=λk l s=>(a k l s).to .no λx s=>match lo,hi with
 |none,none=>YS (U1 x none none) s
 |some lo,none=>(lo k l s).to .no λi s=>oc (Zl i) .no λi=>YS (U1 x (some i) none) s
 |none,some hi=>(hi k l s).to .no λj s=>oc (Zl j) .no λj=>YS (U1 x none (some j)) s
 |some lo,some hi=>(lo k l s).to .no λi s=>oc (Zl i) .no λi=>(hi k l s).to .no λj s=>oc (Zl j) .no λj=>YS (U1 x (some i) (some j)) s
noncomputable abbrev ZH:=YG->V->St->Option YG
def Yh(n:Nat):ZH:=λl v _=>some (XM l n v)
def Zj(ns:List Nat):ZH:=λl v s=>oc (Du s v) none λvs=>Zp l ns vs
def YX(l:YG):List Nat->YG
 | []=>[]
 |n::r=> @Option.rec V (λ_=>YG) (YX l r) (λv=>(n,v)::YX l r) (Xh l n)
noncomputable abbrev XaO:=Nat->St->Option (Option V)
def JV(item:XaO)(elt:M)(b:ZH)(k:K)(l:YG)(f:Nat):Nat->St->Yj:=
 @Nat.rec (λ_=>Nat->St->Yj) (λ_ _=> .no) (λ_ g j s=>
  oc (item j s) .no λo=> @Option.rec V (λ_=>Yj) (.ok [] s) (λv=>oc (b l v s) .no λl'=>(elt k l' s).to .no λx s=>(g (Nat.add j 1) s).to .no λxs s=> .ok (x::xs) s) o) f
def W8(get:Option O->Option (List V))(i:Nat):XaO:=λj s=>oc (get (s.get i)) none λits=>some (Zn its j)
def Xjs(its:List V):XaO:=λj _=>some (Zn its j)
def Y7:Option O->Option (List V)
 |some (.list l)=>some l
 |_=>none
def Xc1(elt:M)(b:ZH)(k:K)(l:YG)(i:Nat)(s:St):Option O->Yj
 |some (.list _)=>JV (W8 Y7 i) elt b k l 64 0 s
 |some (.tup _)=>JV (W8 It i) elt b k l 64 0 s
 |_=> .no
def XnH(elt:M)(b:ZH)(k:K)(l:YG)(v:V)(s:St):Yj:=match v with
 | .ref i=>Xc1 elt b k l i s (s.get i)
 |_=> .no
def Uu(elt:M)(b:ZH)(fv:List Nat)(it:M):M:=λk l s=>(it k l s).to .no λv s=>(XnH elt b k (YX l fv) v s).to .no λvs s=>Nd s vs
def M8(elt:M)(b:ZH)(fv:List Nat)(as:ML):M:=λk l s=>(as k l s).to .no λvs s=>oc (Yo k.F vs) .no λits=>(JV (Xjs its) elt b k (YX l fv) 64 0 s).to .no λvs s=>Nd s vs
def tV(e:M):MB:=λk l s=>(e k l s).to .no λv s=>NV (Id s v) s
def Ur(e:MB):MB:=λk l s=>(e k l s).to .no λb s=> .ok (!b) s
def Op(a b:MB):MB:=λk l s=>(a k l s).to .no λc s=>bc c (b k l s) (.ok false s)
def Wf(a b:MB):MB:=λk l s=>(a k l s).to .no λc s=>bc c (.ok true s) (b k l s)
def Xmq(t a b:MB):MB:=λk l s=>(t k l s).to .no λc s=>bc c (a k l s) (b k l s)
def Xp(op:Nat)(a b:M):MB:=λk l s=>(a k l s).to .no λx s=>(b k l s).to .no λy s=>NV (Ux k.F op s x y) s
abbrev Zk.to(x:Zk)(k:YG->St->Zk):Zk:= @Zk.rec (λ_=>Zk) .no k (λv s=> .ret v s) x
def Xg:MS:=λ_ l s=> .next l s
def Xd(a b:MS):MS:=λk l s=>(a k l s).to (b k)
def Xz(n:Nat)(e:M):MS:=λk l s=>(e k l s).to .no λv s=> .next (XM l n v) s
def XbW(k:K)(l:YG)(n:Nat)(w:V)(s:St)(c d:Nat):Option O->Zk
 |some (.flds c' fs)=>bc (Nat.beq c c') (oc (k.cls c) .no λcl=>bc (WX cl.mask n) (.next l (s.put d (.flds c' (XM fs n w)))) .no) .no
 |_=> .no
def XbX(k:K)(l:YG)(n:Nat)(w:V)(s:St):Option O->Zk
 |some (.inst c d)=>XbW k l n w s c d (s.get d)
 |_=> .no
def setA(k:K)(l:YG)(n:Nat)(w:V)(v:V)(s:St):Zk:=match v with
 | .ref i=>XbX k l n w s (s.get i)
 |_=> .no
def Xl(o:M)(n:Nat)(e:M):MS:=λk l s=>(e k l s).to .no λw s=>(o k l s).to .no (setA k l n w)
def Xls(l:YG)(j:Nat)(k:Int)(w:V)(s:St):Option O->Zk
 |some (.idict m)=>bc (XU m) (.next l (s.put j (.idict (Iq m k w)))) .no
 |some (.list m)=>bc (XU m) (bc (nn k&&Nat.blt k.toNat (Uy m)) (.next l (s.put j (.list (m.set k.toNat w)))) .no) .no
 |_=> .no
def Xp0(l:YG)(w o i:V)(s:St):Zk:=rK o .no λj=>iK i .no λk=>oc k.lit? .no λk=>Xls l j k w s (s.get j)
def N8(o i e:M):MS:=λk l s=>(e k l s).to .no λw s=>(o k l s).to .no λov s=>(i k l s).to .no λiv s=>Xp0 l w ov iv s
def J3(ns:List Nat)(e:M):MS:=λk l s=>(e k l s).to .no λv s=>oc (Du s v) .no λvs=>oc (Zp l ns vs) .no λl=> .next l s
def ZQ:List (M×Nat)->List V->MS
 | [],[]=>λ_ l s=> .next l s
 |(o,n)::ts,v::vs=>λk l s=>((o k l s).to .no (setA k l n v)).to (ZQ ts vs k)
 |_,_=>λ_ _ _=> .no
def Gp(ts:List (M×Nat))(e:M):MS:=λk l s=>(e k l s).to .no λv s=>oc (Du s v) .no λvs=>ZQ ts vs k l s
def XeX(o:M)(n op:Nat)(e:M):MS:=λk l s=>(o k l s).to .no λov s=>(Kk k n ov s).to .no λold s=>(e k l s).to .no λv s=>bc (Nat.beq op 0) ((XfT k.G 0 s old v).to .no λw s=>setA k l n w ov s) .no
def Zb(e:M):MS:=λk l s=>(e k l s).to .no λ_ s=> .next l s
def Xq(e:M):MS:=λk l s=>(e k l s).to .no λv s=> .ret v s
def XeY:MS:=λ_ _ s=> .ret .none s
def Yn(t:MB)(a b:MS):MS:=λk l s=>(t k l s).to .no λc s=>bc c (a k l s) (b k l s)
def Z4:MS:=λ_ _ _=> .no
def YW(body:MS)(b:ZH)(k:K):List V->YG->St->Zk
 | [],l,s=> .next l s
 |v::r,l,s=>oc (b l v s) .no λl=>(body k l s).to (YW body b k r)
def X9(get:Option O->Option (List V))(body:MS)(b:ZH)(k:K)(i:Nat)(f:Nat):Nat->YG->St->Zk:=
 @Nat.rec (λ_=>Nat->YG->St->Zk) (λ_ _ _=> .no) (λ_ g j l s=>
  oc (get (s.get i)) .no λits=> @Option.rec V (λ_=>Zk) (.next l s) (λv=>oc (b l v s) .no λl=>(body k l s).to (g (Nat.add j 1))) (Zn its j)) f
def Xbn(body:MS)(b:ZH)(k:K)(i:Nat)(l:YG)(s:St):Option O->Zk
 |some (.list _)=>X9 Y7 body b k i 64 0 l s
 |some (.tup _)=>X9 It body b k i 64 0 l s
 |_=> .no
def XrX(body:MS)(b:ZH)(k:K)(l:YG)(v:V)(s:St):Zk:=match v with
 | .ref i=>Xbn body b k i l s (s.get i)
 |_=> .no
def Ip(b:ZH)(it:M)(body:MS):MS:=λk l s=>(it k l s).to .no (XrX body b k l)
def Dn(b:ZH)(as:ML)(body:MS):MS:=λk l s=>(as k l s).to .no λvs s=>oc (Yo k.F vs) .no λits=>YW body b k its l s
def Xcb(t:MB)(body:MS)(k:K)(f:Nat):YG->St->Zk:=
 @Nat.rec (λ_=>YG->St->Zk) (λ_ _=> .no) (λ_ g l s=>(t k l s).to .no λc s=>bc c ((body k l s).to g) (.next l s)) f
def Xmi(t:MB)(body:MS):MS:=λk l s=>Xcb t body k 40 l s
structure X7 where
 params:List Nat
 dflts:List V
 body:MS
structure Top where
 fn:Nat->Option X7
 cls:Nat->Option Ig
 wheelC:Nat
structure Mj where
 top:Top
 F:XA
 G:Oz
 hook:V->List V->St->Option Xu
def Ze(x:Zk):Xu:= @Zk.rec (λ_=>Xu) .no (λ_ s=> .ok .none s) (λv s=> .ok v s) x
def Ik(C:Mj)(r:Je):K:=⟨C.F,C.G,C.top.cls,C.top.wheelC,r⟩
def Zw(C:Mj)(r:Je)(args:List V)(s:St)(f:Option X7):Xu:=
 oc f .no λf=>oc (Jg f.params args f.dflts) .no λl=>Ze (f.body (Ik C r) l s)
def Xea(x:Nat)(v:V)(s:St):Xu:=bc (Z1 v) (.ok (.ref x) s) .no
def Uc(r:Je)(c:Nat)(args:List V)(s:St)(k:Option Ig):Xu:=
 oc k .no λk=>(r (.fn k.init) (.ref (Nat.add s.n 1)::args) ⟨(s.h.set (.flds c []) s.n).set (.inst c s.n) (Nat.add s.n 1),Nat.add s.n 2⟩).to .no (Xea (Nat.add s.n 1))
def cK{α:Type}(v:V)(d:α)(k:Nat->α):α:=match v with
 | .cls x=>k x
 |_=>d
def Xe3(C:Mj)(r:Je):Je:=λf args s=>aK f (cK f .no λc=>Uc r c args s (C.top.cls c)) λa=>Zw C r args s (C.top.fn a)
def GR(C:Mj)(r:Je):Je:=λf args s=> @Option.rec Xu (λ_=>Xu) (Xe3 C r f args s) (λx=>x) (C.hook f args s)
def run(C:Mj)(n:Nat):Je:= @Nat.rec (λ_=>Je) (λ_ _ _=> .no) (λ_ r=>GR C r) n
end Tactic
end Mine
namespace Mine
open PySem
def isX(i:Nat)(e:Expr):Bool:=Nat.beq e.ctorIdx i
def XdD{α:Type}(e:Expr)(k:Str->Pos->α)(d:α):α:=if h:e.ctorIdx=23 then Expr.Name.elim e h k else d
def XdC{α:Type}(e:Expr)(k:Expr->Str->Pos->α)(d:α):α:=if h:e.ctorIdx=20 then Expr.Attribute.elim e h k else d
def XkH{α:Type}(e:Expr)(k:List Expr->Nat->Pos->α)(d:α):α:=if h:e.ctorIdx=25 then Expr.Tuple.elim e h k else d
def XnV{α:Type}(e:Expr)(k:Const->Nat->Pos->α)(d:α):α:=if h:e.ctorIdx=19 then Expr.Constant.elim e h k else d
def Ki{α:Type}(e:Expr)(k:Expr->List Expr->List Keyword->Pos->α)(d:α):α:=if h:e.ctorIdx=16 then Expr.Call.elim e h k else d
def Xn1{α:Type}(e:Expr)(k:Expr->Expr->Pos->α)(d:α):α:=if h:e.ctorIdx=21 then Expr.Subscript.elim e h k else d
def XnU{α:Type}(e:Expr)(k:Expr->List CmpOp->List Expr->Pos->α)(d:α):α:=if h:e.ctorIdx=15 then Expr.Compare.elim e h k else d
def XnZ{α:Type}(e:Expr)(k:Expr->Expr->Expr->Pos->α)(d:α):α:=if h:e.ctorIdx=5 then Expr.IfExp.elim e h k else d
def XrZ{α:Type}(e:Expr)(k:Expr->Operator->Expr->Pos->α)(d:α):α:=if h:e.ctorIdx=2 then Expr.BinOp.elim e h k else d
def gUn{α:Type}(e:Expr)(k:UnaryOp->Expr->Pos->α)(d:α):α:=if h:e.ctorIdx=3 then Expr.UnaryOp.elim e h k else d
def gBo{α:Type}(e:Expr)(k:BoolOp->List Expr->Pos->α)(d:α):α:=if h:e.ctorIdx=0 then Expr.BoolOp.elim e h k else d
def XnW{α:Type}(e:Expr)(k:List (Option Expr)->List Expr->Pos->α)(d:α):α:=if h:e.ctorIdx=6 then Expr.Dict.elim e h k else d
def XrY{α:Type}(s:Stmt)(k:List Expr->Expr->Pos->α)(d:α):α:=if h:s.ctorIdx=5 then Stmt.Assign.elim s h k else d
def Xn0{α:Type}(s:Stmt)(k:Option Expr->Pos->α)(d:α):α:=if h:s.ctorIdx=3 then Stmt.Return.elim s h k else d
def gIf{α:Type}(s:Stmt)(k:Expr->List Stmt->List Stmt->Pos->α)(d:α):α:=if h:s.ctorIdx=12 then Stmt.If.elim s h k else d
def XnX{α:Type}(s:Stmt)(k:Expr->Expr->List Stmt->List Stmt->Pos->α)(d:α):α:=if h:s.ctorIdx=9 then Stmt.For.elim s h k else d
def gEx{α:Type}(s:Stmt)(k:Expr->Pos->α)(d:α):α:=if h:s.ctorIdx=24 then Stmt.Expr.elim s h k else d
noncomputable def XnY{α:Type}(s:Stmt)(k:Str->Arguments->List Stmt->List Expr->Option Expr->List TypeParam->Scope->Option Scope->Str->Pos->α)(d:α):α:=if h:s.ctorIdx=0 then Stmt.FunctionDef.elim s h k else d
noncomputable def Xr0{α:Type}(s:Stmt)(k:Str->List Expr->List Keyword->List Stmt->List Expr->List TypeParam->Scope->Option Scope->Str->List Str->Pos->α)(d:α):α:=if h:s.ctorIdx=2 then Stmt.ClassDef.elim s h k else d
end Mine
namespace Mine
namespace Tactic
open PySem
noncomputable def O2(e:Expr):List Expr:=Ki e (λf a _ _=>f::a) (XdC e (λe _ _=>[e]) (XnU e (λl _ r _=>l::r) (XkH e (λl _ _=>l) (XnZ e (λa b c _=>[a,b,c]) (XrZ e (λa _ b _=>[a,b]) (Xn1 e (λa b _=>[a,b]) (gUn e (λ_ a _=>[a]) (gBo e (λ_ l _=>l) []))))))))
noncomputable def XjX(s:Stmt):List Expr:=XrY s (λt e _=>e::t) (Xn0 s (λv _=>v.toList) (gIf s (λe _ _ _=>[e]) (XnX s (λt i _ _ _=>[t,i]) (gEx s (λe _=>[e]) []))))
def XkV(e:Expr):Nat:=XkH e (λ_ k _=>k) (XnV e (λ_ k _=>k) 0)
noncomputable def XeZ(s:Stmt):List Stmt:=gIf s (λ_ b _ _=>b) (XnX s (λ_ _ b _ _=>b) [])
def N9(l:List Stmt)(i:Nat):Stmt:=(l[i]?).getD default
def eAt(s:Stmt)(p:List Nat):Expr:=match p with
 | []=>default
 |i::p=>p.foldl (λe i=>((O2 e)[i]?).getD default) (((XjX s)[i]?).getD default)
noncomputable def UC(s:Stmt)(p:List Nat):Pos:=(eAt s p).pos
end Tactic
end Mine
namespace Mine
open PySem PySem.W PySem.Calls PyProof.Rows
theorem Qa{α:Type _}{l:List α}{i:Nat}{a:α}(h:l[i]?=some a):∃h:i<l.length,l[i]=a:=List.getElem?_eq_some_iff.mp h
theorem Qb{α β:Type _}{f:α->β}{l:List α}{b:β}(h:b∈l.map f):∃a,a∈l/\f a=b:=List.mem_map.mp h
theorem Qc{α β:Type _}{f:α->β}{l:List α}{b:β}(h:∃a,a∈l/\f a=b):b∈l.map f:=List.mem_map.mpr h
theorem Qd{a b:Bool}(h:(a&&b)=true):a=true/\b=true:=Bool.and_eq_true_iff.mp h
theorem Qe{α:Type _}{a b:α}{l:List α}(h:a∈b::l):a=b∨a∈l:=List.mem_cons.mp h
theorem Qf{α:Type _}{p:α->Bool}{l:List α}(h:l.all p=true):∀x∈l,p x=true:=List.all_eq_true.mp h
abbrev Qg:=@wpAny_bind
abbrev Qh:=@wpAny_pure
abbrev Qi:=@Nat.eq_of_beq_eq_true
abbrev Qj:=@Heap.get?_push_of_some
abbrev Qk:=@List.mem_append_right
abbrev Ql:=@List.mem_cons_self
abbrev Qm:=@List.mem_cons_of_mem
abbrev Qn:=@decide_eq_false
abbrev Qo:=@decide_eq_true
abbrev Qp:=@List.length_cons
abbrev Qq:=@List.getElem?_eq_getElem
abbrev Qr:=@List.prefix_append
abbrev Qs:=@List.length_map
abbrev Qt:=@of_decide_eq_true
abbrev Qu:=@Heap.lt_size
abbrev Qv:=@Nat.le_of_ble_eq_true
abbrev Qw:=@List.length_append
abbrev Qx:=@List.size_toArray
abbrev Qy:=@List.prefix_rfl
abbrev Qz:=@Nat.ne_of_lt
abbrev QA:=@Heap.get?_push_size
abbrev QB:=@wpAny_holding
abbrev QC:=@List.mem_map_of_mem
abbrev QD:=@Nat.ble_eq_true_of_le
abbrev QE:=@List.getElem?_map
abbrev QF:=@wpAny_of_eq
abbrev QG:=@List.map_append
abbrev QH:=@Nat.le_trans
abbrev QI:=@Nat.beq_refl
abbrev QJ:=@List.map_cons
abbrev QK:=@List.mem_append_left
abbrev QL:=@builtinLookup_eq_fast
abbrev QM:=@Nat.zero_add
abbrev QN:=@List.mem_of_getElem?
abbrev QO:=@Nat.lt_succ_self
abbrev QP:=@List.nodup_nil
abbrev QQ:=@wpAny_execs_cons
abbrev QR:=@beq_self_eq_true
abbrev QS:=@Nat.le_refl
abbrev QT:=@List.length_filter_le
abbrev QU:=@List.getElem?_concat_length
abbrev QV:=@Option.some.inj
abbrev QW:=@Str.ofString
abbrev QX:=@Nat.add_right_comm
abbrev QY:=@Nat.lt_of_lt_of_le
abbrev QZ:=@List.filter_cons_of_neg
abbrev Ra:=@List.filter_cons_of_pos
abbrev Rb:=@Int.add_zero
abbrev Rd:=@List.lookup_cons
abbrev Re:=@Int.le_trans
abbrev Rg:=@Nat.zero_le
abbrev Rh:=@Nat.exists_eq_add_of_le
abbrev Ri:=@Bool.false_ne_true
abbrev Rj:=Params
abbrev Rk:=Shared
abbrev Rm:=Value
abbrev Rn:=Addr
noncomputable abbrev prog:Program:=PySem.Challenge.pw_pq1202_01
def Xe7(p:Program)(w:World)(n₀:Nat)(ann:Option Rm):Nat->SharedT->Thread->Option SharedT
 | 0,_,_=>none
 |n + 1,s,t=>match through t with
  |true=>some s
  |false=>match PySem.W.Fast.tw6613529449190102663 n₀ ann t with
   |false=>none
   |true=>match PySem.W.Fast.tw10156331382660048174 (PySem.W.Fast.tw11892475500146522536 PySem.W.Fast.tw14364793385576792824) p w s t with
    |some (s',t')=>Xe7 p w n₀ ann n s' t'
    |none=>none
theorem XhE{p:Program}{w:World}{n₀:Nat}{ann:Option Rm}:∀{n:Nat}{s s':SharedT}{t:Thread},
  Xe7 p w n₀ ann n s t=some s'->topRun treeTable p w n₀ ann n s.abs t=some s'.abs:=by
 intro n
 induction n with
 |zero=>intro s s' t h;injection h
 |succ n ih=>
  intro s s' t h
  unfold Xe7 at h
  rw[←PySem.W.Fast.te6613529449190102663,←PySem.W.Fast.te10156331382660048174,←PySem.W.Fast.te11892475500146522536,←PySem.W.Fast.te14364793385576792824] at h
  unfold topRun
  cases ht:through t with
  |true=>rw[ht] at h;cases h;rfl
  |false=>
   rw[ht] at h
   cases hk:stepOk n₀ ann t with
   |false=>rw[hk] at h;injection h
   |true=>
    rw[hk] at h
    cases hs:stepT (denote treeTable) p w s t with
    |none=>rw[hs] at h;injection h
    |some x=>
     obtain ⟨s₁,t₁⟩:=x
     rw[hs] at h
     have e:=stepT_spec hs
     show (match step (denote treeTable) p w s.abs t with | .go s' t'=>topRun treeTable p w n₀ ann n s' t' | .halt _ _=>none)=_
     rw[e]
     exact ih h
def T0(P:Rj):BT:= .node (boot_o_0 P)
 (.node (boot_o_1 P) (.node (boot_o_3 P) (.node (boot_o_7 P) .nil .nil) .nil) (.node (boot_o_5 P) (.node (boot_o_9 P) .nil .nil) .nil))
 (.node (boot_o_2 P) (.node (boot_o_4 P) (.node (boot_o_8 P) .nil .nil) .nil) (.node (boot_o_6 P) (.node (boot_o_10 P) .nil .nil) .nil))
theorem Xkc(P:Rj):absHeap (T0 P) 11 {}=boot_heap P:=by
 kernel_rfl
def S0(w:World)(os:OsState):SharedT:=⟨T0 w.params,11,{},#[],boot_drawn,boot_toks,os⟩
def de(P:Rj)(s:String)(t:Nat)(v:Rm):DictEntry:=⟨PyData.keyHash P (QW s),.str (QW s) t,v⟩
def Yk(i:Nat):Arguments×List Stmt×Scope:=(prog.main.body[i]?).elim default λs=>XnY s (λ_ a b _ _ _ sc _ _ _=>(a,b,sc)) default
def XL(i j:Nat):Arguments×List Stmt×Scope:=(prog.main.body[i]?).elim default λs=>Xr0 s (λ_ _ _ b _ _ _ _ _ _ _=>(b[j]?).elim default λs=>XnY s (λ_ a b _ _ _ sc _ _ _=>(a,b,sc)) default) default
noncomputable def fo(name qual:String)(A:Arguments×List Stmt×Scope)(dV kV pm cd:Rm):Obj:=
 ⟨.type "function",none,.func (fnOf name qual A.1 A.2.1 A.2.2 dV kV .none pm none cd .none),#[]⟩
abbrev ZG:="thinstack.sender"
abbrev UD:="thinstack.tcp_user"
abbrev BF:="thinstack.wheel"
abbrev tsD:="thinstack.retransmit"
abbrev tsE:="thinstack.send_queue"
abbrev tsF:="thinstack.tcb"
abbrev tsG:="thinstack.receiver"
abbrev tsH:="thinstack.tcp_states"
abbrev tsI:="thinstack.acks"
abbrev tsJ:="thinstack.congestion"
abbrev tsK:="thinstack.rtt"
abbrev tsL:="thinstack.sequence"
abbrev tsM:="thinstack.tcp_segment"
noncomputable abbrev sO:String->Str:=QW
def fq(name qual:String)(A:Arguments×List Stmt×Scope)(m:String)(t cd:Nat):Obj:=fo name qual A .none .none (.str (sO m) t) (.ref cd)
def co(name qual:String)(t l a r x:Nat):Obj:={cls:= .type "code",data:= .fields #[.str (sO name) t,.str (sO qual) (t + 1),.str (sO "/claim/cut.py") (t + 2),.int l 0,.int a 0,.int 0 0,.int 0 0,.int 3 0,.ref r,.bool true,.int 181 0,.ref (r + 1),.none,.ref (r + 2),.ref (r + 3),.ref (r + 4),.int x 0,.int l 0,.str (sO "/claim/cut.py") (x + 1)]}
def o3(P:Rj):Obj:=dictOf [de P "__name__" 165 (.str (sO "law_pq1202_01") 1960),de P "__doc__" 166 .none,de P "__package__" 167 .none,de P "__loader__" 168 (.builtin "__main__.__loader__#opaque"),de P "__spec__" 169 .none,de P "__annotations__" 170 (.ref 6),de P "__builtins__" 171 (.ref 4),de P "__file__" 173 (.str (sO "/claim/cut.py") 172),de P "__cached__" 174 .none,de P "_wall" 193 (.ref 21),de P "StackError" 224 (.ref 38),de P "SizeError" 240 (.ref 51),de P "StateError" 256 (.ref 63),de P "ResetError" 272 (.ref 75),de P "TimedOutError" 288 (.ref 87),de P "plus" 299 (.ref 96),de P "distance" 308 (.ref 103),de P "is_before" 318 (.ref 110),de P "is_at_most" 327 (.ref 117),de P "latest" 336 (.ref 124),de P "EVERY" 340 (.int 2 339),de P "AckPolicy" 412 (.ref 177),de P "Congestion" 524 (.ref 261),de P "MOST_SHIFT_retransmit" 528 (.int 7 527),de P "RetransmitClock" 627 (.ref 338),de P "RttEstimate" 703 (.ref 394),de P "SendQueue" 775 (.ref 450),de P "PeerWindow" 830 (.ref 485),de P "Sender" 1071 (.ref 676),de P "put16" 1080 (.ref 687),de P "FIN" 1084 (.int 1 1083),de P "SYN" 1086 (.int 2 1085),de P "PSH" 1088 (.int 8 1087),de P "ACK" 1090 (.int 16 1089),de P "OPTION_MSS" 1092 (.int 2 1091),de P "MSS_SIZE" 1094 (.int 4 1093),de P "Segment" 1164 (.ref 726),de P "check_number" 1172 (.ref 737),de P "mss_option" 1179 (.ref 744),de P "CLOSED" 1183 (.str (sO "closed") 1182),de P "LISTEN" 1185 (.str (sO "listen") 1184),de P "SYN_SENT" 1187 (.str (sO "syn sent") 1186),de P "SYN_RECEIVED" 1189 (.str (sO "syn received") 1188),de P "ESTABLISHED" 1191 (.str (sO "established") 1190),de P "FIN_WAIT_1" 1193 (.str (sO "fin wait 1") 1192),de P "FIN_WAIT_2" 1195 (.str (sO "fin wait 2") 1194),de P "CLOSE_WAIT" 1197 (.str (sO "close wait") 1196),de P "CLOSING" 1199 (.str (sO "closing") 1198),de P "LAST_ACK" 1201 (.str (sO "last ack") 1200),de P "TIME_WAIT" 1203 (.str (sO "time wait") 1202),de P "opening_steps" 1209 (.ref 751),de P "closing_steps" 1215 (.ref 758),de P "follow" 1224 (.ref 765),de P "may_send" 1231 (.ref 772),de P "is_sending" 1238 (.ref 779),de P "Wheel" 1332 (.ref 842),de P "RESEND" 1336 (.int 1 1335),de P "PERSIST" 1338 (.int 2 1337),de P "DELAYED" 1340 (.int 3 1339),de P "WAIT" 1342 (.int 4 1341),de P "MOST_WINDOW" 1344 (.int 65535 1343),de P "Limits" 1391 (.ref 863),de P "clock_of" 1399 (.ref 874),de P "Tcb" 1465 (.ref 906),de P "MOST_SHIFT_tcp_user" 1469 (.int 7 1468),de P "change_state" 1478 (.ref 917),de P "closed" 1487 (.ref 924),de P "check_error" 1494 (.ref 931),de P "open_active" 1502 (.ref 938),de P "send" 1512 (.ref 945),de P "close" 1520 (.ref 952),de P "ack_segment" 1527 (.ref 959),de P "syn_segment" 1534 (.ref 966),de P "flags_of" 1543 (.ref 973),de P "take_asked_fin" 1551 (.ref 980),de P "data_segments" 1567 (.ref 987),de P "output" 1576 (.ref 994),de P "keep_timers" 1584 (.ref 1001),de P "probe_wait" 1592 (.ref 1008),de P "on_time" 1602 (.ref 1015),de P "sent_again" 1612 (.ref 1022),de P "segment_again" 1623 (.ref 1029),de P "probed" 1637 (.ref 1036),de P "Assembly" 1790 (.ref 1128),de P "Receiver" 1959 (.ref 1262),de P "_law_pool" 1972 (.ref 1273),de P "_law_take" 1981 (.ref 1280),de P "_law_one" 1989 (.ref 1287),de P "_law_opened" 1998 (.ref 1294),de P "_law_wait" 2007 (.ref 1301),de P "_law_is_begun_anew" 2016 (.ref 1308),de P "_law_piece_right" 2022 (.ref 1313),de P "_law_tries_right" 2028 (.ref 1318),de P "_law_next_right" 2038 (.ref 1325),de P "_law_probes_right" 2044 (.ref 1330),de P "_law_late_right" 2050 (.ref 1335),de P "law" 2060 (.ref 1342)] 97
def o96(P:Rj):Obj:=fq "plus" "plus" (Yk 8) tsL 289 95
def o95(P:Rj):Obj:=co "plus" "plus" 291 18 3 90 297
def Xso(P:Rj):Obj:=fq "distance" "distance" (Yk 9) tsL 289 102
def Xsn(P:Rj):Obj:=co "distance" "distance" 300 20 3 97 306
def Xsq(P:Rj):Obj:=fq "is_before" "is_before" (Yk 10) tsL 289 109
def Xsp(P:Rj):Obj:=co "is_before" "is_before" 309 22 3 104 316
def Xss(P:Rj):Obj:=fq "latest" "latest" (Yk 12) tsL 289 123
def Xsr(P:Rj):Obj:=co "latest" "latest" 328 27 3 118 334
def XsD(P:Rj):Obj:={cls:= .type "type",data:=Data.cls {name:=sO "AckPolicy",bases:=[.type "object"],mro:=[.ref 177,.type "object"],ns:=176,qualname:=sO "AckPolicy"},slots:=#[none,none,some (.str (sO "AckPolicy") 341),some (.str (sO "AckPolicy") 349),some (.builtin "object.__new__"),some (.bool true)]}
def XsC(P:Rj):Obj:=dictOf [de P "__module__" 348 (.str (sO tsI) 337),de P "__firstlineno__" 352 (.int 31 351),de P "__init__" 360 (.ref 138),de P "on_octets" 371 (.ref 146),de P "at_once" 378 (.ref 153),de P "is_due" 386 (.ref 160),de P "on_sent" 393 (.ref 167),de P "due_time" 400 (.ref 174),de P "__static_attributes__" 405 (.ref 175),de P "__dict__" 407 (.ref 178),de P "__weakref__" 409 (.ref 179),de P "__doc__" 410 .none] 4
def Xsu(P:Rj):Obj:=fq "__init__" "AckPolicy.__init__" (XL 15 0) tsI 337 137
def Xst(P:Rj):Obj:=co "__init__" "AckPolicy.__init__" 353 33 2 132 358
def Xsx(P:Rj):Obj:=fo "on_octets" "AckPolicy.on_octets" (XL 15 1) (.ref 139) .none (.str (sO tsI) 337) (.ref 145)
def Xsw(P:Rj):Obj:=co "on_octets" "AckPolicy.on_octets" 361 39 4 140 369
noncomputable def Xsv(P:Rj):Obj:={cls:= .type "tuple",data:=Data.seq #[.bool false]}
def Xsz(P:Rj):Obj:=fq "on_sent" "AckPolicy.on_sent" (XL 15 4) tsI 337 166
def Xsy(P:Rj):Obj:=co "on_sent" "AckPolicy.on_sent" 387 56 1 161 391
def XsB(P:Rj):Obj:=fq "due_time" "AckPolicy.due_time" (XL 15 5) tsI 337 173
def XsA(P:Rj):Obj:=co "due_time" "AckPolicy.due_time" 394 60 1 168 398
def XsN(P:Rj):Obj:={cls:= .type "type",data:=Data.cls {name:=sO "Congestion",bases:=[.type "object"],mro:=[.ref 261,.type "object"],ns:=260,qualname:=sO "Congestion"},slots:=#[none,none,some (.str (sO "Congestion") 415),some (.str (sO "Congestion") 423),some (.builtin "object.__new__"),some (.bool true)]}
def XsM(P:Rj):Obj:=dictOf [de P "__module__" 422 (.str (sO tsJ) 413),de P "__firstlineno__" 426 (.int 63 425),de P "__init__" 436 (.ref 195),de P "window" 443 (.ref 202),de P "grow" 451 (.ref 209),de P "halved" 460 (.ref 216),de P "acked" 468 (.ref 223),de P "slow_start" 477 (.ref 230),de P "avoid" 485 (.ref 237),de P "duplicate" 493 (.ref 244),de P "recovered" 500 (.ref 251),de P "timed_out" 508 (.ref 258),de P "__static_attributes__" 517 (.ref 259),de P "__dict__" 519 (.ref 262),de P "__weakref__" 521 (.ref 263),de P "__doc__" 522 .none] 4
def XsF(P:Rj):Obj:=fq "__init__" "Congestion.__init__" (XL 17 0) tsJ 413 194
def XsE(P:Rj):Obj:=co "__init__" "Congestion.__init__" 427 65 4 189 434
def XsH(P:Rj):Obj:=fq "window" "Congestion.window" (XL 17 1) tsJ 413 201
def XsG(P:Rj):Obj:=co "window" "Congestion.window" 437 75 1 196 441
def XsJ(P:Rj):Obj:=fq "halved" "Congestion.halved" (XL 17 3) tsJ 413 215
def XsI(P:Rj):Obj:=co "halved" "Congestion.halved" 452 83 2 210 458
def XsL(P:Rj):Obj:=fq "timed_out" "Congestion.timed_out" (XL 17 9) tsJ 413 257
def XsK(P:Rj):Obj:=co "timed_out" "Congestion.timed_out" 501 119 2 252 506
def Xs1(P:Rj):Obj:={cls:= .type "type",data:=Data.cls {name:=sO "RetransmitClock",bases:=[.type "object"],mro:=[.ref 338,.type "object"],ns:=337,qualname:=sO "RetransmitClock"},slots:=#[none,none,some (.str (sO "RetransmitClock") 529),some (.str (sO "RetransmitClock") 537),some (.builtin "object.__new__"),some (.bool true)]}
def Xs0(P:Rj):Obj:=dictOf [de P "__module__" 536 (.str (sO tsD) 525),de P "__firstlineno__" 540 (.int 128 539),de P "__init__" 549 (.ref 279),de P "is_timing" 556 (.ref 286),de P "sent" 565 (.ref 293),de P "forget" 572 (.ref 300),de P "acked" 583 (.ref 307),de P "back_off" 590 (.ref 314),de P "reset_tries" 597 (.ref 321),de P "waited" 606 (.ref 328),de P "deadline" 614 (.ref 335),de P "__static_attributes__" 620 (.ref 336),de P "__dict__" 622 (.ref 339),de P "__weakref__" 624 (.ref 340),de P "__doc__" 625 .none] 4
def XsP(P:Rj):Obj:=fq "__init__" "RetransmitClock.__init__" (XL 20 0) tsD 525 278
def XsO(P:Rj):Obj:=co "__init__" "RetransmitClock.__init__" 541 130 3 273 547
def XsR(P:Rj):Obj:=fq "sent" "RetransmitClock.sent" (XL 20 2) tsD 525 292
def XsQ(P:Rj):Obj:=co "sent" "RetransmitClock.sent" 557 140 3 287 563
def XsT(P:Rj):Obj:=fq "forget" "RetransmitClock.forget" (XL 20 3) tsD 525 299
def XsS(P:Rj):Obj:=co "forget" "RetransmitClock.forget" 566 145 1 294 570
def XsV(P:Rj):Obj:=fq "back_off" "RetransmitClock.back_off" (XL 20 5) tsD 525 313
def XsU(P:Rj):Obj:=co "back_off" "RetransmitClock.back_off" 584 157 1 308 588
def XsX(P:Rj):Obj:=fq "waited" "RetransmitClock.waited" (XL 20 7) tsD 525 327
def XsW(P:Rj):Obj:=co "waited" "RetransmitClock.waited" 598 165 1 322 604
def XsZ(P:Rj):Obj:=fq "deadline" "RetransmitClock.deadline" (XL 20 8) tsD 525 334
def XsY(P:Rj):Obj:=co "deadline" "RetransmitClock.deadline" 607 171 2 329 612
def Xtb(P:Rj):Obj:={cls:= .type "type",data:=Data.cls {name:=sO "RttEstimate",bases:=[.type "object"],mro:=[.ref 394,.type "object"],ns:=393,qualname:=sO "RttEstimate"},slots:=#[none,none,some (.str (sO "RttEstimate") 630),some (.str (sO "RttEstimate") 638),some (.builtin "object.__new__"),some (.bool true)]}
def Xta(P:Rj):Obj:=dictOf [de P "__module__" 637 (.str (sO tsK) 628),de P "__firstlineno__" 641 (.int 174 640),de P "__init__" 651 (.ref 356),de P "sample" 660 (.ref 363),de P "mean" 667 (.ref 370),de P "plain_timeout" 674 (.ref 377),de P "timeout" 681 (.ref 384),de P "bounded" 689 (.ref 391),de P "__static_attributes__" 696 (.ref 392),de P "__dict__" 698 (.ref 395),de P "__weakref__" 700 (.ref 396),de P "__doc__" 701 .none] 4
def Xs3(P:Rj):Obj:=fq "__init__" "RttEstimate.__init__" (XL 22 0) tsK 628 355
def Xs2(P:Rj):Obj:=co "__init__" "RttEstimate.__init__" 642 176 4 350 649
def Xs5(P:Rj):Obj:=fq "plain_timeout" "RttEstimate.plain_timeout" (XL 22 3) tsK 628 376
def Xs4(P:Rj):Obj:=co "plain_timeout" "RttEstimate.plain_timeout" 668 199 1 371 672
def Xs7(P:Rj):Obj:=fq "timeout" "RttEstimate.timeout" (XL 22 4) tsK 628 383
def Xs6(P:Rj):Obj:=co "timeout" "RttEstimate.timeout" 675 204 1 378 679
def Xs9(P:Rj):Obj:=fq "bounded" "RttEstimate.bounded" (XL 22 5) tsK 628 390
def Xs8(P:Rj):Obj:=co "bounded" "RttEstimate.bounded" 682 207 2 385 687
def Xtp(P:Rj):Obj:={cls:= .type "type",data:=Data.cls {name:=sO "SendQueue",bases:=[.type "object"],mro:=[.ref 450,.type "object"],ns:=449,qualname:=sO "SendQueue"},slots:=#[none,none,some (.str (sO "SendQueue") 706),some (.str (sO "SendQueue") 714),some (.builtin "object.__new__"),some (.bool true)]}
def Xto(P:Rj):Obj:=dictOf [de P "__module__" 713 (.str (sO tsE) 704),de P "__firstlineno__" 717 (.int 212 716),de P "__init__" 725 (.ref 412),de P "size" 732 (.ref 419),de P "room_left" 739 (.ref 426),de P "put" 748 (.ref 433),de P "part" 757 (.ref 440),de P "drop" 765 (.ref 447),de P "__static_attributes__" 768 (.ref 448),de P "__dict__" 770 (.ref 451),de P "__weakref__" 772 (.ref 452),de P "__doc__" 773 .none] 4
def Xtd(P:Rj):Obj:=fq "__init__" "SendQueue.__init__" (XL 24 0) tsE 704 411
def Xtc(P:Rj):Obj:=co "__init__" "SendQueue.__init__" 718 214 2 406 723
def Xtf(P:Rj):Obj:=fq "size" "SendQueue.size" (XL 24 1) tsE 704 418
def Xte(P:Rj):Obj:=co "size" "SendQueue.size" 726 220 1 413 730
def Xth(P:Rj):Obj:=fq "room_left" "SendQueue.room_left" (XL 24 2) tsE 704 425
def Xtg(P:Rj):Obj:=co "room_left" "SendQueue.room_left" 733 223 1 420 737
def Xtj(P:Rj):Obj:=fq "put" "SendQueue.put" (XL 24 3) tsE 704 432
def Xti(P:Rj):Obj:=co "put" "SendQueue.put" 740 226 2 427 746
def Xtl(P:Rj):Obj:=fq "part" "SendQueue.part" (XL 24 4) tsE 704 439
def Xtk(P:Rj):Obj:=co "part" "SendQueue.part" 749 231 3 434 755
def Xtn(P:Rj):Obj:=fq "drop" "SendQueue.drop" (XL 24 5) tsE 704 446
def Xtm(P:Rj):Obj:=co "drop" "SendQueue.drop" 758 236 2 441 763
def Xtx(P:Rj):Obj:={cls:= .type "type",data:=Data.cls {name:=sO "PeerWindow",bases:=[.type "object"],mro:=[.ref 485,.type "object"],ns:=484,qualname:=sO "PeerWindow"},slots:=#[none,none,some (.str (sO "PeerWindow") 778),some (.str (sO "PeerWindow") 786),some (.builtin "object.__new__"),some (.bool true)]}
def Xtw(P:Rj):Obj:=dictOf [de P "__module__" 785 (.str (sO ZG) 776),de P "__firstlineno__" 789 (.int 241 788),de P "__init__" 797 (.ref 468),de P "is_newer" 807 (.ref 475),de P "take" 817 (.ref 482),de P "__static_attributes__" 823 (.ref 483),de P "__dict__" 825 (.ref 486),de P "__weakref__" 827 (.ref 487),de P "__doc__" 828 .none] 4
def Xtr(P:Rj):Obj:=fq "__init__" "PeerWindow.__init__" (XL 26 0) ZG 776 467
def Xtq(P:Rj):Obj:=co "__init__" "PeerWindow.__init__" 790 243 2 462 795
def Xtt(P:Rj):Obj:=fq "is_newer" "PeerWindow.is_newer" (XL 26 1) ZG 776 474
def Xts(P:Rj):Obj:=co "is_newer" "PeerWindow.is_newer" 798 250 3 469 805
def Xtv(P:Rj):Obj:=fq "take" "PeerWindow.take" (XL 26 2) ZG 776 481
def Xtu(P:Rj):Obj:=co "take" "PeerWindow.take" 808 258 4 476 815
def Xun(P:Rj):Obj:={cls:= .type "type",data:=Data.cls {name:=sO "Sender",bases:=[.type "object"],mro:=[.ref 676,.type "object"],ns:=675,qualname:=sO "Sender"},slots:=#[none,none,some (.str (sO "Sender") 831),some (.str (sO "Sender") 839),some (.builtin "object.__new__"),some (.bool true)]}
def Xum(P:Rj):Obj:=dictOf [de P "__module__" 838 (.str (sO ZG) 776),de P "__firstlineno__" 842 (.int 266 841),de P "__init__" 853 (.ref 503),de P "window" 861 (.ref 511),de P "take_window" 871 (.ref 518),de P "put" 879 (.ref 525),de P "ask_fin" 886 (.ref 532),de P "flight" 893 (.ref 539),de P "usable" 901 (.ref 546),de P "data_sent" 908 (.ref 553),de P "unsent" 915 (.ref 560),de P "is_fin_due" 923 (.ref 567),de P "is_fin_acked" 930 (.ref 574),de P "is_all_acked" 937 (.ref 581),de P "go_on" 945 (.ref 588),de P "start" 952 (.ref 595),de P "may_go" 961 (.ref 602),de P "pieces" 972 (.ref 610),de P "piece_of" 985 (.ref 617),de P "ever_sent" 992 (.ref 624),de P "first_piece" 1002 (.ref 631),de P "reach" 1010 (.ref 638),de P "back_to" 1018 (.ref 645),de P "is_idle_with_more" 1025 (.ref 652),de P "needs_probe" 1033 (.ref 659),de P "probe" 1040 (.ref 666),de P "acked" 1052 (.ref 673),de P "__static_attributes__" 1064 (.ref 674),de P "__dict__" 1066 (.ref 677),de P "__weakref__" 1068 (.ref 678),de P "__doc__" 1069 .none] 4
def Xtz(P:Rj):Obj:=fq "__init__" "Sender.__init__" (XL 27 0) ZG 776 502
def Xty(P:Rj):Obj:=co "__init__" "Sender.__init__" 843 268 5 497 851
def XtC(P:Rj):Obj:={cls:= .type "property",data:=Data.fields #[.ref 510,.none,.none,.none,.str (sO "window") 861,.bool false]}
def XtB(P:Rj):Obj:=fq "window" "Sender.window" (XL 27 1) ZG 776 509
def XtA(P:Rj):Obj:=co "window" "Sender.window" 854 281 1 504 858
def XtE(P:Rj):Obj:=fq "take_window" "Sender.take_window" (XL 27 2) ZG 776 517
def XtD(P:Rj):Obj:=co "take_window" "Sender.take_window" 862 285 4 512 869
def XtG(P:Rj):Obj:=fq "put" "Sender.put" (XL 27 3) ZG 776 524
def XtF(P:Rj):Obj:=co "put" "Sender.put" 872 288 2 519 877
def XtI(P:Rj):Obj:=fq "ask_fin" "Sender.ask_fin" (XL 27 4) ZG 776 531
def XtH(P:Rj):Obj:=co "ask_fin" "Sender.ask_fin" 880 293 1 526 884
def XtK(P:Rj):Obj:=fq "flight" "Sender.flight" (XL 27 5) ZG 776 538
def XtJ(P:Rj):Obj:=co "flight" "Sender.flight" 887 296 1 533 891
def XtM(P:Rj):Obj:=fq "usable" "Sender.usable" (XL 27 6) ZG 776 545
def XtL(P:Rj):Obj:=co "usable" "Sender.usable" 894 299 2 540 899
def XtO(P:Rj):Obj:=fq "data_sent" "Sender.data_sent" (XL 27 7) ZG 776 552
def XtN(P:Rj):Obj:=co "data_sent" "Sender.data_sent" 902 302 1 547 906
def XtQ(P:Rj):Obj:=fq "unsent" "Sender.unsent" (XL 27 8) ZG 776 559
def XtP(P:Rj):Obj:=co "unsent" "Sender.unsent" 909 305 1 554 913
def XtS(P:Rj):Obj:=fq "is_fin_due" "Sender.is_fin_due" (XL 27 9) ZG 776 566
def XtR(P:Rj):Obj:=co "is_fin_due" "Sender.is_fin_due" 916 308 1 561 921
def XtU(P:Rj):Obj:=fq "is_fin_acked" "Sender.is_fin_acked" (XL 27 10) ZG 776 573
def XtT(P:Rj):Obj:=co "is_fin_acked" "Sender.is_fin_acked" 924 312 1 568 928
def XtW(P:Rj):Obj:=fq "go_on" "Sender.go_on" (XL 27 12) ZG 776 587
def XtV(P:Rj):Obj:=co "go_on" "Sender.go_on" 938 318 2 582 943
def XtY(P:Rj):Obj:=fq "start" "Sender.start" (XL 27 13) ZG 776 594
def XtX(P:Rj):Obj:=co "start" "Sender.start" 946 322 1 589 950
def Xt0(P:Rj):Obj:=fq "may_go" "Sender.may_go" (XL 27 14) ZG 776 601
def XtZ(P:Rj):Obj:=co "may_go" "Sender.may_go" 953 329 3 596 959
def Xt3(P:Rj):Obj:=fo "pieces" "Sender.pieces" (XL 27 15) (.ref 603) .none (.str (sO ZG) 776) (.ref 609)
def Xt2(P:Rj):Obj:=co "pieces" "Sender.pieces" 962 336 3 604 970
def Xt1(P:Rj):Obj:={cls:= .type "tuple",data:=Data.seq #[.bool true]}
def Xt5(P:Rj):Obj:=fq "piece_of" "Sender.piece_of" (XL 27 16) ZG 776 616
def Xt4(P:Rj):Obj:=co "piece_of" "Sender.piece_of" 973 351 3 611 983
def Xt7(P:Rj):Obj:=fq "ever_sent" "Sender.ever_sent" (XL 27 17) ZG 776 623
def Xt6(P:Rj):Obj:=co "ever_sent" "Sender.ever_sent" 986 360 1 618 990
def Xt9(P:Rj):Obj:=fq "first_piece" "Sender.first_piece" (XL 27 18) ZG 776 630
def Xt8(P:Rj):Obj:=co "first_piece" "Sender.first_piece" 993 363 1 625 1000
def Xub(P:Rj):Obj:=fq "reach" "Sender.reach" (XL 27 19) ZG 776 637
def Xua(P:Rj):Obj:=co "reach" "Sender.reach" 1003 375 2 632 1008
def Xud(P:Rj):Obj:=fq "back_to" "Sender.back_to" (XL 27 20) ZG 776 644
def Xuc(P:Rj):Obj:=co "back_to" "Sender.back_to" 1011 379 2 639 1016
def Xuf(P:Rj):Obj:=fq "is_idle_with_more" "Sender.is_idle_with_more" (XL 27 21) ZG 776 651
def Xue(P:Rj):Obj:=co "is_idle_with_more" "Sender.is_idle_with_more" 1019 384 1 646 1023
def Xuh(P:Rj):Obj:=fq "needs_probe" "Sender.needs_probe" (XL 27 22) ZG 776 658
def Xug(P:Rj):Obj:=co "needs_probe" "Sender.needs_probe" 1026 389 1 653 1031
def Xuj(P:Rj):Obj:=fq "probe" "Sender.probe" (XL 27 23) ZG 776 665
def Xui(P:Rj):Obj:=co "probe" "Sender.probe" 1034 397 1 660 1038
def Xul(P:Rj):Obj:=fq "acked" "Sender.acked" (XL 27 24) ZG 776 672
def Xuk(P:Rj):Obj:=co "acked" "Sender.acked" 1041 408 2 667 1050
def Xup(P:Rj):Obj:=fq "put16" "put16" (Yk 29) "thinstack.octets" 1072 686
def Xuo(P:Rj):Obj:=co "put16" "put16" 1074 422 1 681 1078
def Xuu(P:Rj):Obj:={cls:= .type "type",data:=Data.cls {name:=sO "Segment",bases:=[.type "object"],mro:=[.ref 726,.type "object"],ns:=725,qualname:=sO "Segment"},slots:=#[none,none,some (.str (sO "Segment") 1095),some (.str (sO "Segment") 1103),some (.builtin "object.__new__"),some (.bool true)]}
def Xut(P:Rj):Obj:=dictOf [de P "__module__" 1102 (.str (sO tsM) 1081),de P "__firstlineno__" 1106 (.int 431 1105),de P "__init__" 1125 (.ref 702),de P "has" 1133 (.ref 709),de P "length" 1140 (.ref 716),de P "row" 1147 (.ref 723),de P "__static_attributes__" 1157 (.ref 724),de P "__dict__" 1159 (.ref 727),de P "__weakref__" 1161 (.ref 728),de P "__doc__" 1162 .none] 4
def Xus(P:Rj):Obj:=fo "__init__" "Segment.__init__" (XL 37 0) (.ref 695) .none (.str (sO tsM) 1081) (.ref 701)
def Xur(P:Rj):Obj:=co "__init__" "Segment.__init__" 1110 433 10 696 1123
noncomputable def Xuq(P:Rj):Obj:={cls:= .type "tuple",data:=Data.seq #[.int 0 1107,Value.bytes #[] 1108,Value.bytes #[] 1109]}
def Xuw(P:Rj):Obj:=fq "check_number" "check_number" (Yk 38) tsM 1081 736
def Xuv(P:Rj):Obj:=co "check_number" "check_number" 1165 452 2 731 1170
def Xuy(P:Rj):Obj:=fq "mss_option" "mss_option" (Yk 39) tsM 1081 743
def Xux(P:Rj):Obj:=co "mss_option" "mss_option" 1173 455 1 738 1177
def XuA(P:Rj):Obj:=fq "opening_steps" "opening_steps" (Yk 52) tsH 1180 750
def Xuz(P:Rj):Obj:=co "opening_steps" "opening_steps" 1204 470 0 745 1207
def XuC(P:Rj):Obj:=fq "closing_steps" "closing_steps" (Yk 53) tsH 1180 757
def XuB(P:Rj):Obj:=co "closing_steps" "closing_steps" 1210 472 0 752 1213
def XuE(P:Rj):Obj:=fq "follow" "follow" (Yk 54) tsH 1180 764
def XuD(P:Rj):Obj:=co "follow" "follow" 1216 474 2 759 1222
def XuG(P:Rj):Obj:=fq "may_send" "may_send" (Yk 55) tsH 1180 771
def XuF(P:Rj):Obj:=co "may_send" "may_send" 1225 483 1 766 1229
def XuI(P:Rj):Obj:=fq "is_sending" "is_sending" (Yk 56) tsH 1180 778
def XuH(P:Rj):Obj:=co "is_sending" "is_sending" 1232 485 1 773 1236
def XuZ(P:Rj):Obj:={cls:= .type "type",data:=Data.cls {name:=sO "Wheel",bases:=[.type "object"],mro:=[.ref 842,.type "object"],ns:=841,qualname:=sO "Wheel"},slots:=#[none,none,some (.str (sO "Wheel") 1241),some (.str (sO "Wheel") 1249),some (.builtin "object.__new__"),some (.bool true)]}
def XuY(P:Rj):Obj:=dictOf [de P "__module__" 1248 (.str (sO BF) 1239),de P "__firstlineno__" 1252 (.int 488 1251),de P "__init__" 1259 (.ref 792),de P "put" 1268 (.ref 799),de P "list_of" 1276 (.ref 806),de P "cancel" 1287 (.ref 813),de P "time_of" 1295 (.ref 820),de P "next_time" 1302 (.ref 827),de P "due" 1308 (.ref 832),de P "keys_until" 1318 (.ref 839),de P "__static_attributes__" 1325 (.ref 840),de P "__dict__" 1327 (.ref 843),de P "__weakref__" 1329 (.ref 844),de P "__doc__" 1330 .none] 4
def XuL(P:Rj):Obj:=fo "__init__" "Wheel.__init__" (XL 58 0) (.ref 787) .none (.str (sO BF) 1239) (.ref 791)
def XuK(P:Rj):Obj:={cls:= .type "code",data:=Data.fields #[.str (sO "__init__") 1254,.str (sO "Wheel.__init__") 1255,.str (sO "/claim/cut.py") 1256,.int 490 0,.int 2 0,.int 0 0,.int 0 0,.int 3 0,.ref 788,.bool true,.int 181 0,.ref 789,.none,.none,.none,.ref 790,.int 1257 0,.int 490 0,.str (sO "/claim/cut.py") 1258]}
noncomputable def XuJ(P:Rj):Obj:={cls:= .type "tuple",data:=Data.seq #[.int 16 1253]}
def XuN(P:Rj):Obj:=fq "put" "Wheel.put" (XL 58 1) BF 1239 798
def XuM(P:Rj):Obj:=co "put" "Wheel.put" 1260 498 3 793 1266
def XuP(P:Rj):Obj:=fq "list_of" "Wheel.list_of" (XL 58 2) BF 1239 805
def XuO(P:Rj):Obj:=co "list_of" "Wheel.list_of" 1269 504 2 800 1274
def XuR(P:Rj):Obj:=fq "cancel" "Wheel.cancel" (XL 58 3) BF 1239 812
def XuQ(P:Rj):Obj:=co "cancel" "Wheel.cancel" 1277 509 2 807 1285
def XuT(P:Rj):Obj:=fq "time_of" "Wheel.time_of" (XL 58 4) BF 1239 819
def XuS(P:Rj):Obj:=co "time_of" "Wheel.time_of" 1288 516 2 814 1293
def XuV(P:Rj):Obj:=fq "due" "Wheel.due" (XL 58 6) BF 1239 831
def XuU(P:Rj):Obj:={cls:= .type "code",data:=Data.fields #[.str (sO "due") 1303,.str (sO "Wheel.due") 1304,.str (sO "/claim/cut.py") 1305,.int 522 0,.int 2 0,.int 0 0,.int 0 0,.int 3 0,.ref 828,.bool true,.int 181 0,.ref 829,.none,.none,.none,.ref 830,.int 1306 0,.int 522 0,.str (sO "/claim/cut.py") 1307]}
def XuX(P:Rj):Obj:=fq "keys_until" "Wheel.keys_until" (XL 58 7) BF 1239 838
def XuW(P:Rj):Obj:=co "keys_until" "Wheel.keys_until" 1309 534 2 833 1316
def Xu3(P:Rj):Obj:={cls:= .type "type",data:=Data.cls {name:=sO "Limits",bases:=[.type "object"],mro:=[.ref 863,.type "object"],ns:=862,qualname:=sO "Limits"},slots:=#[none,none,some (.str (sO "Limits") 1345),some (.str (sO "Limits") 1353),some (.builtin "object.__new__"),some (.bool true)]}
def Xu2(P:Rj):Obj:=dictOf [de P "__module__" 1352 (.str (sO tsF) 1333),de P "__firstlineno__" 1356 (.int 547 1355),de P "__init__" 1373 (.ref 860),de P "__static_attributes__" 1384 (.ref 861),de P "__dict__" 1386 (.ref 864),de P "__weakref__" 1388 (.ref 865),de P "__doc__" 1389 .none] 4
def Xu1(P:Rj):Obj:=fq "__init__" "Limits.__init__" (XL 65 0) tsF 1333 859
def Xu0(P:Rj):Obj:=co "__init__" "Limits.__init__" 1357 549 11 854 1371
def Xu5(P:Rj):Obj:=fq "clock_of" "clock_of" (Yk 66) tsF 1333 873
def Xu4(P:Rj):Obj:=co "clock_of" "clock_of" 1392 560 1 868 1397
def Xve(P:Rj):Obj:={cls:= .type "type",data:=Data.cls {name:=sO "Tcb",bases:=[.type "object"],mro:=[.ref 906,.type "object"],ns:=905,qualname:=sO "Tcb"},slots:=#[none,none,some (.str (sO "Tcb") 1400),some (.str (sO "Tcb") 1408),some (.builtin "object.__new__"),some (.bool true)]}
def Xvd(P:Rj):Obj:=dictOf [de P "__module__" 1407 (.str (sO tsF) 1333),de P "__firstlineno__" 1411 (.int 563 1410),de P "__init__" 1422 (.ref 888),de P "window_now" 1429 (.ref 895),de P "make" 1443 (.ref 903),de P "__static_attributes__" 1458 (.ref 904),de P "__dict__" 1460 (.ref 907),de P "__weakref__" 1462 (.ref 908),de P "__doc__" 1463 .none] 4
def Xu7(P:Rj):Obj:=fq "__init__" "Tcb.__init__" (XL 67 0) tsF 1333 887
def Xu6(P:Rj):Obj:=co "__init__" "Tcb.__init__" 1412 565 5 882 1420
def Xu9(P:Rj):Obj:=fq "window_now" "Tcb.window_now" (XL 67 1) tsF 1333 894
def Xu8(P:Rj):Obj:=co "window_now" "Tcb.window_now" 1423 581 1 889 1427
def Xvc(P:Rj):Obj:=fo "make" "Tcb.make" (XL 67 2) (.ref 896) .none (.str (sO tsF) 1333) (.ref 902)
def Xvb(P:Rj):Obj:=co "make" "Tcb.make" 1431 586 4 897 1441
noncomputable def Xva(P:Rj):Obj:={cls:= .type "tuple",data:=Data.seq #[Value.bytes #[] 1430]}
def Xvg(P:Rj):Obj:=fq "change_state" "change_state" (Yk 70) UD 1466 916
def Xvf(P:Rj):Obj:=co "change_state" "change_state" 1470 598 2 911 1476
def Xvi(P:Rj):Obj:=fq "closed" "closed" (Yk 71) UD 1466 923
def Xvh(P:Rj):Obj:=co "closed" "closed" 1479 603 2 918 1485
def Xvk(P:Rj):Obj:=fq "check_error" "check_error" (Yk 72) UD 1466 930
def Xvj(P:Rj):Obj:=co "check_error" "check_error" 1488 609 1 925 1492
def Xvm(P:Rj):Obj:=fq "open_active" "open_active" (Yk 73) UD 1466 937
def Xvl(P:Rj):Obj:=co "open_active" "open_active" 1495 614 2 932 1500
def Xvo(P:Rj):Obj:=fq "send" "send" (Yk 74) UD 1466 944
def Xvn(P:Rj):Obj:=co "send" "send" 1503 617 3 939 1510
def Xvq(P:Rj):Obj:=fq "close" "close" (Yk 75) UD 1466 951
def Xvp(P:Rj):Obj:=co "close" "close" 1513 623 2 946 1518
def Xvs(P:Rj):Obj:=fq "ack_segment" "ack_segment" (Yk 76) UD 1466 958
def Xvr(P:Rj):Obj:=co "ack_segment" "ack_segment" 1521 633 1 953 1525
def Xvu(P:Rj):Obj:=fq "syn_segment" "syn_segment" (Yk 77) UD 1466 965
def Xvt(P:Rj):Obj:=co "syn_segment" "syn_segment" 1528 635 1 960 1532
def Xvw(P:Rj):Obj:=fq "flags_of" "flags_of" (Yk 78) UD 1466 972
def Xvv(P:Rj):Obj:=co "flags_of" "flags_of" 1535 637 2 967 1541
def Xvy(P:Rj):Obj:=fq "take_asked_fin" "take_asked_fin" (Yk 79) UD 1466 979
def Xvx(P:Rj):Obj:=co "take_asked_fin" "take_asked_fin" 1544 644 1 974 1549
def XvA(P:Rj):Obj:=fq "data_segments" "data_segments" (Yk 80) UD 1466 986
def Xvz(P:Rj):Obj:=co "data_segments" "data_segments" 1552 649 2 981 1565
def XvC(P:Rj):Obj:=fq "output" "output" (Yk 81) UD 1466 993
def XvB(P:Rj):Obj:=co "output" "output" 1568 659 2 988 1574
def Xou(P:Rj):Obj:=fq "keep_timers" "keep_timers" (Yk 82) UD 1466 1000
def Xot(P:Rj):Obj:=co "keep_timers" "keep_timers" 1577 670 2 995 1582
def Xow(P:Rj):Obj:=fq "probe_wait" "probe_wait" (Yk 83) UD 1466 1007
def Xov(P:Rj):Obj:=co "probe_wait" "probe_wait" 1585 682 1 1002 1590
def Xoy(P:Rj):Obj:=fq "on_time" "on_time" (Yk 84) UD 1466 1014
def Xox(P:Rj):Obj:=co "on_time" "on_time" 1593 685 2 1009 1600
def XoA(P:Rj):Obj:=fq "sent_again" "sent_again" (Yk 85) UD 1466 1021
def Xoz(P:Rj):Obj:=co "sent_again" "sent_again" 1603 700 2 1016 1610
def XoC(P:Rj):Obj:=fq "segment_again" "segment_again" (Yk 86) UD 1466 1028
def XoB(P:Rj):Obj:=co "segment_again" "segment_again" 1613 712 1 1023 1621
def XoE(P:Rj):Obj:=fq "probed" "probed" (Yk 87) UD 1466 1035
def XoD(P:Rj):Obj:=co "probed" "probed" 1624 718 2 1030 1635
def XoI(P:Rj):Obj:={cls:= .type "type",data:=Data.cls {name:=sO "Assembly",bases:=[.type "object"],mro:=[.ref 1128,.type "object"],ns:=1127,qualname:=sO "Assembly"},slots:=#[none,none,some (.str (sO "Assembly") 1640),some (.str (sO "Assembly") 1648),some (.builtin "object.__new__"),some (.bool true)]}
def XoH(P:Rj):Obj:=dictOf [de P "__module__" 1647 (.str (sO "thinstack.assembly") 1638),de P "__firstlineno__" 1651 (.int 732 1650),de P "__init__" 1659 (.ref 1050),de P "size" 1665 (.ref 1055),de P "is_empty" 1672 (.ref 1062),de P "offset" 1681 (.ref 1069),de P "put" 1693 (.ref 1076),de P "missing" 1710 (.ref 1083),de P "merged" 1724 (.ref 1090),de P "joined" 1739 (.ref 1097),de P "forget" 1750 (.ref 1104),de P "take" 1758 (.ref 1111),de P "holes" 1771 (.ref 1118),de P "cut_behind" 1780 (.ref 1125),de P "__static_attributes__" 1783 (.ref 1126),de P "__dict__" 1785 (.ref 1129),de P "__weakref__" 1787 (.ref 1130),de P "__doc__" 1788 .none] 4
def XoG(P:Rj):Obj:=fq "__init__" "Assembly.__init__" (XL 89 0) "thinstack.assembly" 1638 1049
def XoF(P:Rj):Obj:=co "__init__" "Assembly.__init__" 1652 734 2 1044 1657
def XoU(P:Rj):Obj:={cls:= .type "type",data:=Data.cls {name:=sO "Receiver",bases:=[.type "object"],mro:=[.ref 1262,.type "object"],ns:=1261,qualname:=sO "Receiver"},slots:=#[none,none,some (.str (sO "Receiver") 1793),some (.str (sO "Receiver") 1801),some (.builtin "object.__new__"),some (.bool true)]}
def XoT(P:Rj):Obj:=dictOf [de P "__module__" 1800 (.str (sO tsG) 1791),de P "__firstlineno__" 1804 (.int 825 1803),de P "__init__" 1816 (.ref 1147),de P "free_edge" 1823 (.ref 1154),de P "should_tell" 1831 (.ref 1161),de P "told_window" 1838 (.ref 1168),de P "window" 1845 (.ref 1175),de P "arrive" 1855 (.ref 1182),de P "let_in" 1864 (.ref 1189),de P "note_fin" 1872 (.ref 1196),de P "ahead_of_fin" 1881 (.ref 1203),de P "gather" 1888 (.ref 1210),de P "has_holes" 1895 (.ref 1217),de P "available" 1902 (.ref 1224),de P "read" 1911 (.ref 1231),de P "is_over" 1918 (.ref 1238),de P "read_place" 1926 (.ref 1245),de P "urgent" 1934 (.ref 1252),de P "urgent_left" 1941 (.ref 1259),de P "__static_attributes__" 1952 (.ref 1260),de P "__dict__" 1954 (.ref 1263),de P "__weakref__" 1956 (.ref 1264),de P "__doc__" 1957 .none] 4
def XjB(P:Rj):Obj:=fo "__init__" "Receiver.__init__" (XL 91 0) (.ref 1140) .none (.str (sO tsG) 1791) (.ref 1146)
def XoK(P:Rj):Obj:=co "__init__" "Receiver.__init__" 1806 827 5 1141 1814
noncomputable def XoJ(P:Rj):Obj:={cls:= .type "tuple",data:=Data.seq #[.int 1 1805]}
def XoM(P:Rj):Obj:=fq "free_edge" "Receiver.free_edge" (XL 91 1) tsG 1791 1153
def XoL(P:Rj):Obj:=co "free_edge" "Receiver.free_edge" 1817 839 1 1148 1821
def XoO(P:Rj):Obj:=fq "should_tell" "Receiver.should_tell" (XL 91 2) tsG 1791 1160
def XoN(P:Rj):Obj:=co "should_tell" "Receiver.should_tell" 1824 842 2 1155 1829
def XoQ(P:Rj):Obj:=fq "told_window" "Receiver.told_window" (XL 91 3) tsG 1791 1167
def XoP(P:Rj):Obj:=co "told_window" "Receiver.told_window" 1832 847 1 1162 1836
def XoS(P:Rj):Obj:=fq "window" "Receiver.window" (XL 91 4) tsG 1791 1174
def XoR(P:Rj):Obj:=co "window" "Receiver.window" 1839 852 1 1169 1843
def XjC(P:Rj):Obj:=fq "_law_pool" "_law_pool" (Yk 93) "law_pq1202_01" 1960 1272
def XoV(P:Rj):Obj:=co "_law_pool" "_law_pool" 1962 898 2 1267 1970
def XoX(P:Rj):Obj:=fq "_law_take" "_law_take" (Yk 94) "law_pq1202_01" 1960 1279
def XoW(P:Rj):Obj:=co "_law_take" "_law_take" 1973 905 2 1274 1979
def XoZ(P:Rj):Obj:=fq "_law_one" "_law_one" (Yk 95) "law_pq1202_01" 1960 1286
def XoY(P:Rj):Obj:=co "_law_one" "_law_one" 1982 912 2 1281 1987
def Xo1(P:Rj):Obj:=fq "_law_opened" "_law_opened" (Yk 96) "law_pq1202_01" 1960 1293
def Xo0(P:Rj):Obj:=co "_law_opened" "_law_opened" 1990 914 2 1288 1996
def Xo3(P:Rj):Obj:=fq "_law_wait" "_law_wait" (Yk 97) "law_pq1202_01" 1960 1300
def Xo2(P:Rj):Obj:=co "_law_wait" "_law_wait" 1999 922 2 1295 2005
def Xo5(P:Rj):Obj:=fq "_law_is_begun_anew" "_law_is_begun_anew" (Yk 98) "law_pq1202_01" 1960 1307
def Xo4(P:Rj):Obj:=co "_law_is_begun_anew" "_law_is_begun_anew" 2008 925 2 1302 2014
def Xo7(P:Rj):Obj:=fq "_law_piece_right" "_law_piece_right" (Yk 99) "law_pq1202_01" 1960 1312
def Xo6(P:Rj):Obj:={cls:= .type "code",data:=Data.fields #[.str (sO "_law_piece_right") 2017,.str (sO "_law_piece_right") 2018,.str (sO "/claim/cut.py") 2019,.int 930 0,.int 4 0,.int 0 0,.int 0 0,.int 3 0,.ref 1309,.bool true,.int 181 0,.ref 1310,.none,.none,.none,.ref 1311,.int 2020 0,.int 930 0,.str (sO "/claim/cut.py") 2021]}
def XjD(P:Rj):Obj:=fq "_law_tries_right" "_law_tries_right" (Yk 100) "law_pq1202_01" 1960 1317
def Xo8(P:Rj):Obj:={cls:= .type "code",data:=Data.fields #[.str (sO "_law_tries_right") 2023,.str (sO "_law_tries_right") 2024,.str (sO "/claim/cut.py") 2025,.int 934 0,.int 4 0,.int 0 0,.int 0 0,.int 3 0,.ref 1314,.bool true,.int 181 0,.ref 1315,.none,.none,.none,.ref 1316,.int 2026 0,.int 934 0,.str (sO "/claim/cut.py") 2027]}
def Xpa(P:Rj):Obj:=fq "_law_next_right" "_law_next_right" (Yk 101) "law_pq1202_01" 1960 1324
def Xo9(P:Rj):Obj:=co "_law_next_right" "_law_next_right" 2029 955 2 1319 2036
def Xpc(P:Rj):Obj:=fq "_law_probes_right" "_law_probes_right" (Yk 102) "law_pq1202_01" 1960 1329
def Xpb(P:Rj):Obj:={cls:= .type "code",data:=Data.fields #[.str (sO "_law_probes_right") 2039,.str (sO "_law_probes_right") 2040,.str (sO "/claim/cut.py") 2041,.int 962 0,.int 3 0,.int 0 0,.int 0 0,.int 3 0,.ref 1326,.bool true,.int 181 0,.ref 1327,.none,.none,.none,.ref 1328,.int 2042 0,.int 962 0,.str (sO "/claim/cut.py") 2043]}
def XjE(P:Rj):Obj:=fq "_law_late_right" "_law_late_right" (Yk 103) "law_pq1202_01" 1960 1334
def Xpd(P:Rj):Obj:={cls:= .type "code",data:=Data.fields #[.str (sO "_law_late_right") 2045,.str (sO "_law_late_right") 2046,.str (sO "/claim/cut.py") 2047,.int 978 0,.int 0 0,.int 0 0,.int 0 0,.int 3 0,.ref 1331,.bool true,.int 181 0,.ref 1332,.none,.none,.none,.ref 1333,.int 2048 0,.int 978 0,.str (sO "/claim/cut.py") 2049]}
def XjF(P:Rj):Obj:=fq "law" "law" (Yk 104) "law_pq1202_01" 1960 1341
def Xpe(P:Rj):Obj:=co "law" "law" 2051 992 1 1336 2058
def KF(P:Rj):Frag:=[(3,o3 P),(96,o96 P),(95,o95 P),(103,Xso P),(102,Xsn P),(110,Xsq P),(109,Xsp P),(124,Xss P),(123,Xsr P),(177,XsD P),(176,XsC P),(138,Xsu P),(137,Xst P),(146,Xsx P),(145,Xsw P),(139,Xsv P),(167,Xsz P),(166,Xsy P),(174,XsB P),(173,XsA P),(261,XsN P),(260,XsM P),(195,XsF P),(194,XsE P),(202,XsH P),(201,XsG P),(216,XsJ P),(215,XsI P),(258,XsL P),(257,XsK P),(338,Xs1 P),(337,Xs0 P),(279,XsP P),(278,XsO P),(293,XsR P),(292,XsQ P),(300,XsT P),(299,XsS P),(314,XsV P),(313,XsU P),(328,XsX P),(327,XsW P),(335,XsZ P),(334,XsY P),(394,Xtb P),(393,Xta P),(356,Xs3 P),(355,Xs2 P),(377,Xs5 P),(376,Xs4 P),(384,Xs7 P),(383,Xs6 P),(391,Xs9 P),(390,Xs8 P),(450,Xtp P),(449,Xto P),(412,Xtd P),(411,Xtc P),(419,Xtf P),(418,Xte P),(426,Xth P),(425,Xtg P),(433,Xtj P),(432,Xti P),(440,Xtl P),(439,Xtk P),(447,Xtn P),(446,Xtm P),(485,Xtx P),(484,Xtw P),(468,Xtr P),(467,Xtq P),(475,Xtt P),(474,Xts P),(482,Xtv P),(481,Xtu P),(676,Xun P),(675,Xum P),(503,Xtz P),(502,Xty P),(511,XtC P),(510,XtB P),(509,XtA P),(518,XtE P),(517,XtD P),(525,XtG P),(524,XtF P),(532,XtI P),(531,XtH P),(539,XtK P),(538,XtJ P),(546,XtM P),(545,XtL P),(553,XtO P),(552,XtN P),(560,XtQ P),(559,XtP P),(567,XtS P),(566,XtR P),(574,XtU P),(573,XtT P),(588,XtW P),(587,XtV P),(595,XtY P),(594,XtX P),(602,Xt0 P),(601,XtZ P),(610,Xt3 P),(609,Xt2 P),(603,Xt1 P),(617,Xt5 P),(616,Xt4 P),(624,Xt7 P),(623,Xt6 P),(631,Xt9 P),(630,Xt8 P),(638,Xub P),(637,Xua P),(645,Xud P),(644,Xuc P),(652,Xuf P),(651,Xue P),(659,Xuh P),(658,Xug P),(666,Xuj P),(665,Xui P),(673,Xul P),(672,Xuk P),(687,Xup P),(686,Xuo P),(726,Xuu P),(725,Xut P),(702,Xus P),(701,Xur P),(695,Xuq P),(737,Xuw P),(736,Xuv P),(744,Xuy P),(743,Xux P),(751,XuA P),(750,Xuz P),(758,XuC P),(757,XuB P),(765,XuE P),(764,XuD P),(772,XuG P),(771,XuF P),(779,XuI P),(778,XuH P),(842,XuZ P),(841,XuY P),(792,XuL P),(791,XuK P),(787,XuJ P),(799,XuN P),(798,XuM P),(806,XuP P),(805,XuO P),(813,XuR P),(812,XuQ P),(820,XuT P),(819,XuS P),(832,XuV P),(831,XuU P),(839,XuX P),(838,XuW P),(863,Xu3 P),(862,Xu2 P),(860,Xu1 P),(859,Xu0 P),(874,Xu5 P),(873,Xu4 P),(906,Xve P),(905,Xvd P),(888,Xu7 P),(887,Xu6 P),(895,Xu9 P),(894,Xu8 P),(903,Xvc P),(902,Xvb P),(896,Xva P),(917,Xvg P),(916,Xvf P),(924,Xvi P),(923,Xvh P),(931,Xvk P),(930,Xvj P),(938,Xvm P),(937,Xvl P),(945,Xvo P),(944,Xvn P),(952,Xvq P),(951,Xvp P),(959,Xvs P),(958,Xvr P),(966,Xvu P),(965,Xvt P),(973,Xvw P),(972,Xvv P),(980,Xvy P),(979,Xvx P),(987,XvA P),(986,Xvz P),(994,XvC P),(993,XvB P),(1001,Xou P),(1000,Xot P),(1008,Xow P),(1007,Xov P),(1015,Xoy P),(1014,Xox P),(1022,XoA P),(1021,Xoz P),(1029,XoC P),(1028,XoB P),(1036,XoE P),(1035,XoD P),(1128,XoI P),(1127,XoH P),(1050,XoG P),(1049,XoF P),(1262,XoU P),(1261,XoT P),(1147,XjB P),(1146,XoK P),(1140,XoJ P),(1154,XoM P),(1153,XoL P),(1161,XoO P),(1160,XoN P),(1168,XoQ P),(1167,XoP P),(1175,XoS P),(1174,XoR P),(1273,XjC P),(1272,XoV P),(1280,XoX P),(1279,XoW P),(1287,XoZ P),(1286,XoY P),(1294,Xo1 P),(1293,Xo0 P),(1301,Xo3 P),(1300,Xo2 P),(1308,Xo5 P),(1307,Xo4 P),(1313,Xo7 P),(1312,Xo6 P),(1318,XjD P),(1317,Xo8 P),(1325,Xpa P),(1324,Xo9 P),(1330,Xpc P),(1329,Xpb P),(1335,XjE P),(1334,Xpd P),(1342,XjF P),(1341,Xpe P)]
noncomputable def KA:List Rn:=[3,96,95,103,102,110,109,124,123,177,176,138,137,146,145,139,167,166,174,173,261,260,195,194,202,201,216,215,258,257,338,337,279,278,293,292,300,299,314,313,328,327,335,334,394,393,356,355,377,376,384,383,391,390,450,449,412,411,419,418,426,425,433,432,440,439,447,446,485,484,468,467,475,474,482,481,676,675,503,502,511,510,509,518,517,525,524,532,531,539,538,546,545,553,552,560,559,567,566,574,573,588,587,595,594,602,601,610,609,603,617,616,624,623,631,630,638,637,645,644,652,651,659,658,666,665,673,672,687,686,726,725,702,701,695,737,736,744,743,751,750,758,757,765,764,772,771,779,778,842,841,792,791,787,799,798,806,805,813,812,820,819,832,831,839,838,863,862,860,859,874,873,906,905,888,887,895,894,903,902,896,917,916,924,923,931,930,938,937,945,944,952,951,959,958,966,965,973,972,980,979,987,986,994,993,1001,1000,1008,1007,1015,1014,1022,1021,1029,1028,1036,1035,1128,1127,1050,1049,1262,1261,1147,1146,1140,1154,1153,1161,1160,1168,1167,1175,1174,1273,1272,1280,1279,1287,1286,1294,1293,1301,1300,1308,1307,1313,1312,1318,1317,1325,1324,1330,1329,1335,1334,1342,1341]
def Uj:List Str:=[sO "_wall",sO "StackError",sO "SizeError",sO "StateError",sO "ResetError",sO "TimedOutError",sO "plus",sO "distance",sO "is_before",sO "is_at_most",sO "latest",sO "EVERY",sO "AckPolicy",sO "Congestion",sO "MOST_SHIFT_retransmit",sO "RetransmitClock",sO "RttEstimate",sO "SendQueue",sO "PeerWindow",sO "Sender",sO "put16",sO "FIN",sO "SYN",sO "PSH",sO "ACK",sO "OPTION_MSS",sO "MSS_SIZE",sO "Segment",sO "check_number",sO "mss_option",sO "CLOSED",sO "LISTEN",sO "SYN_SENT",sO "SYN_RECEIVED",sO "ESTABLISHED",sO "FIN_WAIT_1",sO "FIN_WAIT_2",sO "CLOSE_WAIT",sO "CLOSING",sO "LAST_ACK",sO "TIME_WAIT",sO "opening_steps",sO "closing_steps",sO "follow",sO "may_send",sO "is_sending",sO "Wheel",sO "RESEND",sO "PERSIST",sO "DELAYED",sO "WAIT",sO "MOST_WINDOW",sO "Limits",sO "clock_of",sO "Tcb",sO "MOST_SHIFT_tcp_user",sO "change_state",sO "closed",sO "check_error",sO "open_active",sO "send",sO "close",sO "ack_segment",sO "syn_segment",sO "flags_of",sO "take_asked_fin",sO "data_segments",sO "output",sO "keep_timers",sO "probe_wait",sO "on_time",sO "sent_again",sO "segment_again",sO "probed",sO "Assembly",sO "Receiver",sO "_law_pool",sO "_law_take",sO "_law_one",sO "_law_opened",sO "_law_wait",sO "_law_is_begun_anew",sO "_law_piece_right",sO "_law_tries_right",sO "_law_next_right",sO "_law_probes_right",sO "_law_late_right"]
def q0:Program:=view prog [104]
def JD(h:Heap):Bool:=h.isNs mainGlobals&&(h.nsKeys mainGlobals).all λk=>PySem.W.Fast.tw3471404346716756564 startupNames k||PySem.W.Fast.tw3471404346716756564 prog.boundNames k
theorem Ob(h:Heap):JD h=namesBound prog h:=by
 unfold JD namesBound
 rw[←PySem.W.Fast.te3471404346716756564]
def F2(P:Rj)(s:SharedT):=
 ((s.n,s.gens.size,s.toks,s.os,KA.map s.tree.get),
  staticsOk (importedModules prog.main.body) (boot_heap P) s.abs.heap&&JD s.abs.heap&&gensDone s.abs&&laidKept (boot_heap P) s.abs.heap,
  PySem.W.Fast.tw4187177175401517315 q0 Uj (importedModules prog.main.body) (λ_=>true) true s.abs)
theorem XvW(w:World)(os:OsState):(Xe7 prog w 11 (some (.ref 6)) 9100 (S0 w os) (topStub prog)).map (λs=>F2 w.params s)=
  some ((1343,0,2061,os,(KF w.params).map (λp=>some p.2)),true,openGood q0 Uj):=by
 kernel_rfl
end Mine
namespace Mine
namespace Tactic
def XnS:X7:=⟨[4,5,6],[],
 (Xd (Xq (Xo 4 (Xo 0 (Xb 4) (Xb 5)) (Xb 6))) Xg)⟩
def Xh4:X7:=⟨[4,7,6],[],
 (Xd (Xq (Xo 4 (Xo 1 (Xb 7) (Xb 4)) (Xb 6))) Xg)⟩
def Xh5:X7:=⟨[4,7,6],[],
 (Xd (Xz 8 (Xk (.fn 103) (Xa (Xb 4) (Xa (Xb 7) (Xa (Xb 6) Xe)))))
 (Xd (Xq (Uz (YQ 4 (Xb 8) (Xf 0)) (YQ 2 (Xo 2 (Xf 2) (Xb 8)) (Xb 6)))) Xg))⟩
def Xh6:X7:=⟨[4,7,6],[],
 (Xd (Xq (Jt (tV (Xk (.fn 110) (Xa (Xb 4) (Xa (Xb 7) (Xa (Xb 6) Xe))))) (Xb 7) (Xb 4))) Xg)⟩
def Xh7:X7:=⟨[9,10],[],
 (Xd (Xl (Xb 9) 10 (Xb 10))
 (Xd (Xl (Xb 9) 13 (Xf 0))
 (Xd (Xl (Xb 9) 12 XD)
 (Xd (Xl (Xb 9) 11 (XE false)) Xg))))⟩
def Xh8:X7:=⟨[9,14,15,16],[.bool false],
 (Xd (Xz 17 (sA 11))
 (Xd (Xl (Xb 9) 11 (mOr (Xb 16) (Ba (Xb 14))))
 (Xd (XeX (Xb 9) 13 0 (Xf 1))
 (Xd (Yn (Wf (Ur (tV (Xb 14))) (Wf (tV (Xb 17)) (Wf (tV (Xb 16)) (Wf (Xp 3 (sA 10) (Xf 0)) (Xp 5 (sA 13) (Xv (.int (Xn 2)))))))) (Xd (Zb (Xi (Xb 9) 18 Xe))
 (Xd (Xq (Ju 12)) Xg)) Xg)
 (Xd (Yn (Xp 6 (sA 12) XD) (Xd (Xl (Xb 9) 12 (Xo 0 (Xb 15) (sA 10))) Xg) Xg)
 (Xd (Xq (Ju 11)) Xg))))))⟩
def Xh9:X7:=⟨[9],[],
 (Xd (Xl (Xb 9) 13 (Xf 0))
 (Xd (Xl (Xb 9) 12 XD) Xg))⟩
def Xia:X7:=⟨[9],[],
 (Xd (Xq (sA 12)) Xg)⟩
def Xib:X7:=⟨[9,19,20,21],[],
 (Xd (Xl (Xb 9) 19 (Xb 19))
 (Xd (Xl (Xb 9) 21 (Xb 21))
 (Xd (Xl (Xb 9) 27 (Xb 20))
 (Xd (Xl (Xb 9) 26 (Xb 21))
 (Xd (Xl (Xb 9) 25 (Xf 0))
 (Xd (Xl (Xb 9) 24 (Xf 0))
 (Xd (Xl (Xb 9) 23 (XE false))
 (Xd (Xl (Xb 9) 22 (XE false)) Xg))))))))⟩
def Xic:X7:=⟨[9],[],
 (Xd (Xq (sA 27)) Xg)⟩
def Xid:X7:=⟨[9,28],[],
 (Xd (Xz 29 (Xo 3 (Xb 28) (Xf 2)))
 (Xd (Xq (Jt (Xp 4 (Xb 29) (Xo 2 (Xf 2) (sA 19))) (Xb 29) (Xo 2 (Xf 2) (sA 19)))) Xg))⟩
def Xie:X7:=⟨[9,28],[],
 (Xd (Xl (Xb 9) 26 (Xi (Xb 9) 30 (Xa (Xb 28) Xe)))
 (Xd (Xl (Xb 9) 27 (sA 19))
 (Xd (Xl (Xb 9) 25 (Xf 0))
 (Xd (Xl (Xb 9) 24 (Xf 0))
 (Xd (Xl (Xb 9) 23 (XE false))
 (Xd (Xl (Xb 9) 22 (XE true)) Xg))))))⟩
def Xif:X7:=⟨[9,31,32],[],
 (Xd (Xl (Xb 9) 31 (Xb 31))
 (Xd (Xl (Xb 9) 32 (Xb 32))
 (Xd (Xl (Xb 9) 35 (Xf 0))
 (Xd (Xl (Xb 9) 34 XD)
 (Xd (Xl (Xb 9) 33 (Xf 0)) Xg)))))⟩
def Xig:X7:=⟨[9,36,15],[],
 (Xd (Yn (Op (Xp 6 (sA 34) XD) (Xp 0 (sA 35) (Xf 0))) (Xd (Xl (Xb 9) 34 (Xb 36))
 (Xd (Xl (Xb 9) 33 (Xb 15)) Xg)) Xg) Xg)⟩
def Xih:X7:=⟨[9],[],
 (Xd (Xl (Xb 9) 34 XD) Xg)⟩
def Xii:X7:=⟨[9],[],
 (Xd (Xl (Xb 9) 34 XD)
 (Xd (Xl (Xb 9) 35 (Xo 0 (sA 35) (Xf 1)))
 (Xd (Xq (YQ 3 (sA 35) (sA 32))) Xg)))⟩
def Xij:X7:=⟨[9],[],
 (Xd (Xz 38 (Xi (sA 31) 40 Xe))
 (Xd (Dn (Yh 39) (Xa (Jt (Xp 4 (sA 35) (Xv (.int (Xn 7)))) (Xv (.int (Xn 7))) (sA 35)) Xe) (Xd (Xz 38 (Xo 2 (Xf 2) (Xb 38))) Xg))
 (Xd (Xq (Xi (sA 31) 37 (Xa (Xb 38) Xe))) Xg)))⟩
def Xik:X7:=⟨[9,15],[],
 (Xd (Xq (Xo 0 (Xb 15) (Xi (Xb 9) 41 Xe))) Xg)⟩
def Xil:X7:=⟨[9,20,42,21],[],
 (Xd (Xl (Xb 9) 20 (Xb 20))
 (Xd (Xl (Xb 9) 42 (Xb 42))
 (Xd (Xl (Xb 9) 21 (Xb 21))
 (Xd (Xl (Xb 9) 45 (Xf 0))
 (Xd (Xl (Xb 9) 44 (Xf 0))
 (Xd (Xl (Xb 9) 43 (Xf 0)) Xg))))))⟩
def Xim:X7:=⟨[9],[],
 (Xd (Yn (Xp 0 (sA 43) (Xf 0)) (Xd (Xq (sA 20)) Xg) Xg)
 (Xd (Xq (Xo 0 (Xo 3 (sA 45) (Xf 8)) (sA 44))) Xg))⟩
def Xin:X7:=⟨[9],[],
 (Xd (Xq (Xi (Xb 9) 37 (Xa (Xi (Xb 9) 46 Xe) Xe))) Xg)⟩
def W4:X7:=⟨[9,38],[],
 (Xd (Yn (Xp 2 (Xb 38) (sA 42)) (Xd (Xq (sA 42)) Xg) Xg)
 (Xd (Xq (Jt (Xp 4 (Xb 38) (sA 21)) (sA 21) (Xb 38))) Xg))⟩
def Xio:X7:=⟨[9,47],[],
 (Xd (Yn (Xp 2 (Xb 47) (Xf 1)) (Xd Z4 Xg) Xg)
 (Xd (Xl (Xb 9) 47 (Xb 47))
 (Xd (Xl (Xb 9) 48 (Jn [])) Xg)))⟩
def Xip:X7:=⟨[9],[],
 (Xd (Xq (YI 0 (Xa (sA 48) Xe))) Xg)⟩
def Xiq:X7:=⟨[9],[],
 (Xd (Xq (Xo 1 (sA 47) (YI 0 (Xa (sA 48) Xe)))) Xg)⟩
def Xir:X7:=⟨[9,49],[],
 (Xd (Xz 50 (YI 1 (Xa (YI 0 (Xa (Xb 49) Xe)) (Xa (Xi (Xb 9) 51 Xe) Xe))))
 (Xd (Xl (Xb 9) 48 (Xo 0 (sA 48) (YI 4 (Xa (Zm (Xb 49) none (some (Xb 50))) Xe))))
 (Xd (Xq (Xb 50)) Xg)))⟩
def Xis:X7:=⟨[9,52,53],[],
 (Xd (Yn (Wf (Xp 2 (Xb 52) (Xf 0)) (Wf (Xp 2 (Xb 53) (Xf 0)) (Xp 4 (Xo 0 (Xb 52) (Xb 53)) (YI 0 (Xa (sA 48) Xe))))) (Xd Z4 Xg) Xg)
 (Xd (Xq (Zm (sA 48) (some (Xb 52)) (some (Xo 0 (Xb 52) (Xb 53))))) Xg))⟩
def Xit:X7:=⟨[9,53],[],
 (Xd (Yn (Wf (Xp 2 (Xb 53) (Xf 0)) (Xp 4 (Xb 53) (YI 0 (Xa (sA 48) Xe)))) (Xd Z4 Xg) Xg)
 (Xd (Xl (Xb 9) 48 (Zm (sA 48) (some (Xb 53)) none)) Xg))⟩
def Xiu:X7:=⟨[9,6],[],
 (Xd (Xl (Xb 9) 6 (Xb 6))
 (Xd (Xl (Xb 9) 27 (Xf 0))
 (Xd (Xl (Xb 9) 21 (Xf 0))
 (Xd (Xl (Xb 9) 55 XD)
 (Xd (Xl (Xb 9) 54 (Xf 0)) Xg)))))⟩
def Xiv:X7:=⟨[9,56,57],[],
 (Xd (Yn (Xp 6 (sA 55) XD) (Xd (Xq (XE true)) Xg) Xg)
 (Xd (Xz 58 (Xk (.fn 103) (Xa (sA 55) (Xa (Xb 56) (Xa (sA 6) Xe)))))
 (Xd (Yn (Xp 0 (Xb 58) (Xf 0)) (Xd (Xq (YQ 2 (Xk (.fn 103) (Xa (sA 54) (Xa (Xb 57) (Xa (sA 6) Xe)))) (Xo 3 (sA 6) (Xf 2)))) Xg) Xg)
 (Xd (Xq (YQ 2 (Xb 58) (Xo 3 (sA 6) (Xf 2)))) Xg))))⟩
def Xiw:X7:=⟨[9,56,57,27],[],
 (Xd (Yn (Ur (tV (Xi (Xb 9) 59 (Xa (Xb 56) (Xa (Xb 57) Xe))))) (Xd (Xq (XE false)) Xg) Xg)
 (Xd (Xl (Xb 9) 55 (Xb 56))
 (Xd (Xl (Xb 9) 54 (Xb 57))
 (Xd (Xl (Xb 9) 27 (Xb 27))
 (Xd (Xl (Xb 9) 21 (YI 2 (Xa (sA 21) (Xa (Xb 27) Xe))))
 (Xd (Xq (XE true)) Xg))))))⟩
def Xix:X7:=⟨[9,60,6,19,47],[],
 (Xd (Xl (Xb 9) 60 (Xb 60))
 (Xd (Xl (Xb 9) 6 (Xb 6))
 (Xd (Xl (Xb 9) 19 (Xb 19))
 (Xd (Xl (Xb 9) 68 (Xb 60))
 (Xd (Xl (Xb 9) 67 (Xb 60))
 (Xd (Xl (Xb 9) 66 (Xb 60))
 (Xd (Xl (Xb 9) 65 (Xk (.cls 485) (Xa (Xb 6) Xe)))
 (Xd (Xl (Xb 9) 64 (Xk (.cls 450) (Xa (Xb 47) Xe)))
 (Xd (Xl (Xb 9) 63 (XE true))
 (Xd (Xl (Xb 9) 62 (XE false))
 (Xd (Xl (Xb 9) 61 (XE false)) Xg)))))))))))⟩
def Xiy:X7:=⟨[9],[],
 (Xd (Xq (Xj (sA 65) 27)) Xg)⟩
def Xiz:X7:=⟨[9,56,57,69],[],
 (Xd (Xq (Xi (sA 65) 70 (Xa (Xb 56) (Xa (Xb 57) (Xa (Xb 69) Xe))))) Xg)⟩
def XiA:X7:=⟨[9,49],[],
 (Xd (Yn (tV (sA 62)) (Xd Z4 Xg) Xg)
 (Xd (Xq (Xi (sA 64) 71 (Xa (Xb 49) Xe))) Xg))⟩
def XiB:X7:=⟨[9],[],
 (Xd (Xl (Xb 9) 62 (XE true)) Xg)⟩
def XiC:X7:=⟨[9],[],
 (Xd (Xq (Xk (.fn 103) (Xa (sA 68) (Xa (sA 67) (Xa (sA 6) Xe))))) Xg)⟩
def XiD:X7:=⟨[9,72],[],
 (Xd (Xq (YI 2 (Xa (Xf 0) (Xa (Xo 1 (YI 1 (Xa (sA 69) (Xa (Xb 72) Xe))) (Xi (Xb 9) 28 Xe)) Xe)))) Xg)⟩
def XiE:X7:=⟨[9],[],
 (Xd (Xq (YI 1 (Xa (Xi (sA 64) 27 Xe) (Xa (YI 2 (Xa (Xf 0) (Xa (Xo 1 (Xi (Xb 9) 28 Xe) (YI 3 (Xa (sA 63) Xe))) Xe))) Xe)))) Xg)⟩
def XiF:X7:=⟨[9],[],
 (Xd (Xq (Xo 1 (Xi (sA 64) 27 Xe) (Xi (Xb 9) 73 Xe))) Xg)⟩
def XiG:X7:=⟨[9],[],
 (Xd (Xz 47 (Xo 0 (Xi (sA 64) 27 Xe) (YI 3 (Xa (sA 63) Xe))))
 (Xd (Xq (Uz (sA 62) (Uz (Ba (Xi (Xb 9) 74 Xe)) (YQ 3 (Xi (Xb 9) 28 Xe) (Xb 47))))) Xg))⟩
def XiH:X7:=⟨[9],[],
 (Xd (Xq (Uz (sA 61) (Uz (Ba (sA 63)) (Uz (YQ 0 (Xi (sA 64) 27 Xe) (Xf 0)) (YQ 0 (sA 68) (sA 66)))))) Xg)⟩
def XiI:X7:=⟨[9,53],[],
 (Xd (Xl (Xb 9) 67 (Xk (.fn 96) (Xa (sA 67) (Xa (Xb 53) (Xa (sA 6) Xe)))))
 (Xd (Xl (Xb 9) 66 (Xk (.fn 124) (Xa (sA 66) (Xa (sA 67) (Xa (sA 6) Xe))))) Xg))⟩
def XiJ:X7:=⟨[9],[],
 (Xd (Yn (Ur (tV (sA 63))) (Xd Z4 Xg) Xg)
 (Xd (Yn (Xp 0 (sA 67) (sA 60)) (Xd (Zb (Xi (Xb 9) 75 (Xa (Xf 1) Xe))) Xg) Xg)
 (Xd (Xq (sA 60)) Xg)))⟩
def XiK:X7:=⟨[9,53,76],[],
 (Xd (Yn (Xp 5 (Xb 53) (sA 19)) (Xd (Xq (XE true)) Xg) Xg)
 (Xd (Yn (Op (tV (Xb 76)) (Op (Xp 4 (Xi (Xb 9) 28 Xe) (Xf 0)) (Ur (Op (tV (sA 62)) (Xp 0 (Xb 53) (Xi (Xb 9) 77 Xe)))))) (Xd (Xq (XE false)) Xg) Xg)
 (Xd (Xq (mOr (YQ 0 (Xb 53) (Xi (Xb 9) 77 Xe)) (YQ 5 (Xo 2 (Xf 2) (Xb 53)) (Xj (sA 65) 21)))) Xg)))⟩
def XiL:X7:=⟨[9,72,76],[.bool true],
 (Xd (Xz 78 (Yx Xe))
 (Xd (Yn (tV (sA 63)) (Xd (Xq (Xb 78)) Xg) Xg)
 (Xd (Xmi (Xp 4 (Xi (Xb 9) 77 Xe) (Xf 0)) (Xd (Xz 53 (YI 1 (Xa (sA 19) (Xa (Xi (Xb 9) 77 Xe) (Xa (Xi (Xb 9) 79 (Xa (Xb 72) Xe)) Xe)))))
 (Xd (Yn (Wf (Xp 0 (Xb 53) (Xf 0)) (Ur (tV (Xi (Xb 9) 82 (Xa (Xb 53) (Xa (Xb 76) Xe)))))) (Xd (Xq (Xb 78)) Xg) Xg)
 (Xd (Zb (Xi (Xb 78) 0 (Xa (Xi (Xb 9) 81 (Xa (Xb 53) (Xa (Xb 72) Xe))) Xe))) Xg))))
 (Xd (Yn (Op (tV (Xi (Xb 9) 80 Xe)) (Xp 4 (Xi (Xb 9) 79 (Xa (Xb 72) Xe)) (Xf 0))) (Xd (Zb (Xi (Xb 78) 0 (Xa (Yg (Xa (sA 67) (Xa (Jn []) (Xa (XE false) (Xa (XE true) Xe))))) Xe)))
 (Xd (Xl (Xb 9) 61 (XE true))
 (Xd (Zb (Xi (Xb 9) 75 (Xa (Xf 1) Xe))) Xg))) Xg)
 (Xd (Xq (Xb 78)) Xg)))))⟩
def XiM:X7:=⟨[9,53,72],[],
 (Xd (Xz 56 (sA 67))
 (Xd (Xz 49 (Xi (sA 64) 85 (Xa (Xi (Xb 9) 73 Xe) (Xa (Xb 53) Xe))))
 (Xd (Xz 84 (YQ 0 (Xb 53) (Xi (Xb 9) 77 Xe)))
 (Xd (Xz 83 (Uz (Xb 84) (Uz (sA 62) (YQ 4 (Xi (Xb 9) 79 (Xa (Xb 72) Xe)) (Xb 53)))))
 (Xd (Xl (Xb 9) 61 (mOr (sA 61) (Xb 83)))
 (Xd (Zb (Xi (Xb 9) 75 (Xa (Xo 0 (Xb 53) (YI 3 (Xa (Xb 83) Xe))) Xe)))
 (Xd (Xq (Yg (Xa (Xb 56) (Xa (Xb 49) (Xa (Xb 84) (Xa (Xb 83) Xe)))))) Xg)))))))⟩
def XiN:X7:=⟨[9],[],
 (Xd (Xq (Xk (.fn 103) (Xa (sA 68) (Xa (sA 66) (Xa (sA 6) Xe))))) Xg)⟩
def XiO:X7:=⟨[9],[],
 (Xd (Xz 53 (Xi (Xb 9) 87 Xe))
 (Xd (Yn (Xp 0 (Xb 53) (Xf 0)) (Xd (Xq XD) Xg) Xg)
 (Xd (Yn (tV (sA 63)) (Xd (Zb (Xi (Xb 9) 86 (Xa (Xf 1) Xe)))
 (Xd (Xq (Yg (Xa (sA 60) (Xa (Jn []) (Xa (XE true) (Xa (XE false) Xe)))))) Xg)) Xg)
 (Xd (Xz 27 (YI 1 (Xa (sA 19) (Xa (Xi (sA 64) 27 Xe) (Xa (Xb 53) Xe)))))
 (Xd (Xz 83 (Uz (sA 61) (Uz (YQ 0 (Xb 27) (Xi (sA 64) 27 Xe)) (YQ 4 (Xb 53) (Xb 27)))))
 (Xd (Zb (Xi (Xb 9) 86 (Xa (Xo 0 (Xb 27) (YI 3 (Xa (Xb 83) Xe))) Xe)))
 (Xd (Xq (Yg (Xa (sA 68) (Xa (Xi (sA 64) 85 (Xa (Xf 0) (Xa (Xb 27) Xe))) (Xa (XE false) (Xa (Xb 83) Xe)))))) Xg)))))))⟩
def XiP:X7:=⟨[9,53],[],
 (Xd (Yn (Xp 2 (Xi (Xb 9) 28 Xe) (Xb 53)) (Xd (Xl (Xb 9) 67 (Xk (.fn 96) (Xa (sA 68) (Xa (Xb 53) (Xa (sA 6) Xe))))) Xg) Xg) Xg)⟩
def XiQ:X7:=⟨[9,56],[],
 (Xd (Yn (Xp 4 (Xk (.fn 103) (Xa (sA 68) (Xa (Xb 56) (Xa (sA 6) Xe)))) (Xi (Xb 9) 28 Xe)) (Xd Z4 Xg) Xg)
 (Xd (Xl (Xb 9) 67 (Xb 56)) Xg))⟩
def XiR:X7:=⟨[9],[],
 (Xd (Yn (Wf (tV (sA 63)) (Xp 4 (Xi (Xb 9) 28 Xe) (Xf 0))) (Xd (Xq (XE false)) Xg) Xg)
 (Xd (Xq (mOr (YQ 4 (Xi (Xb 9) 77 Xe) (Xf 0)) (Xi (Xb 9) 80 Xe))) Xg))⟩
def XiS:X7:=⟨[9],[],
 (Xd (Yn (Ur (tV (Xi (Xb 9) 88 Xe))) (Xd (Xq (XE false)) Xg) Xg)
 (Xd (Yn (Xp 0 (sA 69) (Xf 0)) (Xd (Xq (XE true)) Xg) Xg)
 (Xd (Xz 53 (YI 1 (Xa (sA 19) (Xa (Xi (Xb 9) 77 Xe) (Xa (sA 69) Xe)))))
 (Xd (Xq (Uz (YQ 4 (Xb 53) (Xf 0)) (Ba (Xi (Xb 9) 82 (Xa (Xb 53) (Xa (XE true) Xe)))))) Xg))))⟩
def XiT:X7:=⟨[9],[],
 (Xd (Yn (Ur (tV (Xi (Xb 9) 89 Xe))) (Xd (Xq XD) Xg) Xg)
 (Xd (Yn (Xp 4 (sA 69) (Xf 0)) (Xd (Xq (Xi (Xb 9) 81 (Xa (YI 1 (Xa (sA 19) (Xa (Xi (Xb 9) 77 Xe) (Xa (sA 69) Xe)))) (Xa (sA 69) Xe)))) Xg) Xg)
 (Xd (Xl (Xb 9) 66 (Xk (.fn 124) (Xa (sA 66) (Xa (Xk (.fn 96) (Xa (sA 67) (Xa (Xf 1) (Xa (sA 6) Xe)))) (Xa (sA 6) Xe)))))
 (Xd (Yn (Xp 0 (Xi (Xb 9) 77 Xe) (Xf 0)) (Xd (Xl (Xb 9) 61 (XE true))
 (Xd (Xq (Yg (Xa (sA 67) (Xa (Jn []) (Xa (XE false) (Xa (XE true) Xe)))))) Xg)) Xg)
 (Xd (Xq (Yg (Xa (sA 67) (Xa (Xi (sA 64) 85 (Xa (Xi (Xb 9) 73 Xe) (Xa (Xf 1) Xe))) (Xa (YQ 0 (Xi (Xb 9) 77 Xe) (Xf 1)) (Xa (XE false) Xe)))))) Xg)))))⟩
def XiU:X7:=⟨[9,57],[],
 (Xd (Xz 53 (Xk (.fn 103) (Xa (sA 68) (Xa (Xb 57) (Xa (sA 6) Xe)))))
 (Xd (Yn (Wf (Xp 0 (Xb 53) (Xf 0)) (Xp 4 (Xb 53) (Xi (Xb 9) 87 Xe))) (Xd (Xq (Yg (Xa (Xf 0) (Xa (XE false) (Xa (XE false) Xe))))) Xg) Xg)
 (Xd (Xz 58 (Xi (Xb 9) 28 Xe))
 (Xd (Xz 90 (sA 63))
 (Xd (Xl (Xb 9) 63 (XE false))
 (Xd (Xz 49 (YI 1 (Xa (Xo 1 (Xb 53) (YI 3 (Xa (Xb 90) Xe))) (Xa (Xi (sA 64) 27 Xe) Xe))))
 (Xd (Zb (Xi (sA 64) 91 (Xa (Xb 49) Xe)))
 (Xd (Xl (Xb 9) 68 (Xb 57))
 (Xd (Yn (Xp 2 (Xb 58) (Xb 53)) (Xd (Xl (Xb 9) 67 (Xb 57)) Xg) Xg)
 (Xd (Xq (Yg (Xa (Xb 49) (Xa (Xb 90) (Xa (YQ 4 (Xo 1 (Xb 53) (YI 3 (Xa (Xb 90) Xe))) (Xb 49)) Xe))))) Xg))))))))))⟩
def XiV:X7:=⟨[5],[],
 (Xd (Xq (YI 4 (Xa (Yx (Xa (Xo 7 (Xo 6 (Xb 5) (Xf 8)) (Xf 255)) (Xa (Xo 7 (Xb 5) (Xf 255)) Xe))) Xe))) Xg)⟩
def XiW:X7:=⟨[9,92,93,56,57,94,69,95,96,97],[.int (Xn 0),.bytes [],.bytes []],
 (Xd (Xl (Xb 9) 92 (Xb 92))
 (Xd (Xl (Xb 9) 93 (Xb 93))
 (Xd (Xl (Xb 9) 56 (Xb 56))
 (Xd (Xl (Xb 9) 57 (Xb 57))
 (Xd (Xl (Xb 9) 94 (Xb 94))
 (Xd (Xl (Xb 9) 69 (Xb 69))
 (Xd (Xl (Xb 9) 95 (Xb 95))
 (Xd (Xl (Xb 9) 96 (Xb 96))
 (Xd (Xl (Xb 9) 97 (Xb 97)) Xg)))))))))⟩
def XiX:X7:=⟨[98,99],[],
 (Xd (Yn (Wf (Xp 2 (Xb 98) (Xf 0)) (Xp 1 (Xo 6 (Xb 98) (Xb 99)) (Xf 0))) (Xd Z4 Xg) Xg) Xg)⟩
def XiY:X7:=⟨[5],[],
 (Xd (Zb (Xk (.fn 737) (Xa (Xb 5) (Xa (Xf 16) Xe))))
 (Xd (Xq (Xo 0 (YI 4 (Xa (Yx (Xa (Xv (.int (Xn 2))) (Xa (Xv (.int (Xn 4))) Xe))) Xe)) (Xk (.fn 687) (Xa (Xb 5) Xe)))) Xg))⟩
def XiZ:X7:=⟨[],[],
 (Xd Z4 Xg)⟩
def Xi0:X7:=⟨[],[],
 (Xd Z4 Xg)⟩
def Xi1:X7:=⟨[100,101],[],
 (Xd (Yn (Xp 0 (Xb 101) (Ju 15)) (Xd (Xq (Jt (Xp 0 (Xb 100) (Xv (.str 1))) (Xv (.str 1)) (Jt (Xp 0 (Xb 100) (Xv (.str 0))) XD (Xv (.str 0))))) Xg) Xg)
 (Xd (Yn (Xp 0 (Xb 101) (Ju 14)) (Xd (Xq (Jt (Xp 0 (Xb 100) (Xv (.str 0))) XD (Xv (.str 0)))) Xg) Xg)
 (Xd (Yn (Xp 0 (Xb 101) (Ju 13)) (Xd (Xq (Jt (Xp 8 (Xb 100) (Yg (Xa (Xv (.str 0)) (Xa (Xv (.str 1)) (Xa (Xv (.str 10)) Xe))))) XD (Xv (.str 0)))) Xg) Xg)
 (Xd Z4
 (Xd Z4 Xg)))))⟩
def Xi2:X7:=⟨[100],[],
 (Xd (Xq (YQ 8 (Xb 100) (Yg (Xa (Xv (.str 2)) (Xa (Xv (.str 3)) (Xa (Xv (.str 4)) (Xa (Xv (.str 7)) Xe))))))) Xg)⟩
def Xi3:X7:=⟨[100],[],
 (Xd (Xq (YQ 8 (Xb 100) (Yg (Xa (Xv (.str 4)) (Xa (Xv (.str 5)) (Xa (Xv (.str 7)) (Xa (Xv (.str 8)) (Xa (Xv (.str 9)) Xe)))))))) Xg)⟩
def Xi4:X7:=⟨[9,27],[.int (Xn 16)],
 (Xd (Xl (Xb 9) 27 (Xb 27))
 (Xd (Xl (Xb 9) 107 (M8 (Yx Xe) (Yh 108) [] (Xa (Xb 27) Xe)))
 (Xd (Xl (Xb 9) 106 (Yx Xe))
 (Xd (Xl (Xb 9) 105 M9)
 (Xd (Xl (Xb 9) 104 XD)
 (Xd (Xl (Xb 9) 103 (Xf 0)) Xg))))))⟩
def Ka:X7:=⟨[9,109,110],[],
 (Xd (Zb (Xi (Xb 9) 112 (Xa (Xb 109) Xe)))
 (Xd (Xl (Xb 9) 103 (Xo 0 (sA 103) (Xf 1)))
 (Xd (N8 (sA 105) (Xb 109) (Yg (Xa (Xb 110) (Xa (sA 103) Xe))))
 (Xd (Zb (Xi (Xi (Xb 9) 111 (Xa (Xb 110) Xe)) 0 (Xa (Xb 109) Xe))) Xg))))⟩
def Kb:X7:=⟨[9,110],[],
 (Xd (Yn (Op (Xp 7 (sA 104) XD) (Xp 3 (Xb 110) (sA 104))) (Xd (Xq (sA 106)) Xg) Xg)
 (Xd (Xq (Yv (sA 107) (Xo 4 (Xb 110) (sA 27)))) Xg))⟩
def O3:X7:=⟨[9,109],[],
 (Xd (Yn (Xp 8 (Xb 109) (sA 105)) (Xd (J3 [110,114] (Xi (sA 105) 3 (Xa (Xb 109) Xe)))
 (Xd (Ip (Yh 113) (Yg (Xa (sA 106) (Xa (Yv (sA 107) (Xo 4 (Xb 110) (sA 27))) Xe))) (Xd (Yn (Xp 8 (Xb 109) (Xb 113)) (Xd (Zb (Xi (Xb 113) 2 (Xa (Xb 109) Xe))) Xg) Xg) Xg)) Xg)) Xg) Xg)⟩
def I0:X7:=⟨[9,109],[],
 (Xd (Xq (Jt (Xp 8 (Xb 109) (sA 105)) (Yv (Yv (sA 105) (Xb 109)) (Xf 0)) XD)) Xg)⟩
def I1:X7:=⟨[9,15],[],
 (Xd (Xz 78 (Yx Xe))
 (Xd (Ip (Yh 109) (Xi (Xb 9) 115 (Xa (Xb 15) Xe)) (Xd (J3 [110,114] (Yv (sA 105) (Xb 109)))
 (Xd (Yn (Xp 3 (Xb 110) (Xb 15)) (Xd (Zb (Xi (Xb 78) 0 (Xa (Yg (Xa (Xb 110) (Xa (Xb 114) (Xa (Xb 109) Xe)))) Xe))) Xg) Xg) Xg)))
 (Xd (Ip (Zj [110,114,109]) (Xb 78) (Xd (Zb (Xi (Xb 9) 112 (Xa (Xb 109) Xe))) Xg))
 (Xd (Yn (Wf (Xp 6 (sA 104) XD) (Xp 4 (Xb 15) (sA 104))) (Xd (Xl (Xb 9) 104 (Xb 15)) Xg) Xg)
 (Xd (Xq (Uu (Xb 109) (Zj [110,114,109]) [] (YI 7 (Xa (Xb 78) Xe)))) Xg)))))⟩
def I2:X7:=⟨[9,15],[],
 (Xd (Yn (Wf (Xp 6 (sA 104) XD) (Xp 5 (Xo 1 (Xb 15) (sA 104)) (sA 27))) (Xd (Xq (YI 6 (Xa (sA 105) Xe))) Xg) Xg)
 (Xd (Xz 78 (YI 6 (Xa (sA 106) Xe)))
 (Xd (Dn (Yh 110) (Xa (Xo 0 (sA 104) (Xf 1)) (Xa (Xo 0 (Xb 15) (Xf 1)) Xe)) (Xd (Xz 78 (Xo 0 (Xb 78) (Yv (sA 107) (Xo 4 (Xb 110) (sA 27))))) Xg))
 (Xd (Xq (Xb 78)) Xg))))⟩
def Xi5:X7:=⟨[9,6,19,116,117,118,119,120,32,121,122],[],
 (Xd (Xl (Xb 9) 6 (Xb 6))
 (Xd (Xl (Xb 9) 19 (Xb 19))
 (Xd (Xl (Xb 9) 116 (Xb 116))
 (Xd (Xl (Xb 9) 117 (Xb 117))
 (Xd (Xl (Xb 9) 118 (Xb 118))
 (Xd (Xl (Xb 9) 119 (Xb 119))
 (Xd (Xl (Xb 9) 120 (Xb 120))
 (Xd (Xl (Xb 9) 32 (Xb 32))
 (Xd (Xl (Xb 9) 121 (Xb 121))
 (Xd (Xl (Xb 9) 122 (Xb 122)) Xg))))))))))⟩
def Xi6:X7:=⟨[123],[],
 (Xd (Xz 31 (Xk (.cls 394) (Xa (Xj (Xb 123) 118) (Xa (Xj (Xb 123) 119) (Xa (Xj (Xb 123) 120) Xe)))))
 (Xd (Xq (Xk (.cls 338) (Xa (Xb 31) (Xa (Xj (Xb 123) 32) Xe)))) Xg))⟩
def Xi7:X7:=⟨[9,123,124,125,60],[],
 (Xd (Xl (Xb 9) 123 (Xb 123))
 (Xd (Xl (Xb 9) 124 (Xb 124))
 (Xd (Xl (Xb 9) 125 (Xb 125))
 (Xd (Xl (Xb 9) 100 (Xv (.str 0)))
 (Xd (Xl (Xb 9) 134 (Xk (.cls 676) (Xa (Xb 60) (Xa (Xj (Xb 123) 6) (Xa (Xj (Xb 123) 19) (Xa (Xj (Xb 123) 116) Xe))))))
 (Xd (Xl (Xb 9) 133 XD)
 (Xd (Xl (Xb 9) 132 (Xk (.fn 874) (Xa (Xb 123) Xe)))
 (Xd (Xl (Xb 9) 131 (Xk (.cls 261) (Xa (Xj (Xb 123) 19) (Xa (Xo 2 (Xf 2) (Xj (Xb 123) 19)) (Xa (Xo 0 (Xj (Xb 123) 116) (Xj (Xb 123) 19)) Xe)))))
 (Xd (Xl (Xb 9) 130 (Xk (.cls 177) (Xa (Xj (Xb 123) 121) Xe)))
 (Xd (Xl (Xb 9) 129 (Xk (.cls 842) Xe))
 (Xd (Xl (Xb 9) 128 XD)
 (Xd (Xl (Xb 9) 127 (Xf 0))
 (Xd (Xl (Xb 9) 126 (Xf 0))
 (Xd (Xl (Xb 9) 76 (XE true)) Xg))))))))))))))⟩
def Xi8:X7:=⟨[9],[],
 (Xd (Yn (Xp 6 (sA 133) XD) (Xd (Xq (YI 1 (Xa (Xj (sA 123) 117) (Xa (Xv (.int (Xn 65535))) Xe)))) Xg) Xg)
 (Xd (Xq (YI 1 (Xa (Xi (sA 133) 69 Xe) (Xa (Xv (.int (Xn 65535))) Xe)))) Xg))⟩
def Xi9:X7:=⟨[9,94,56,97],[.bytes []],
 (Xd (Xz 57 (Xf 0))
 (Xd (Yn (Xp 7 (sA 133) XD) (Xd (Xz 94 (Xo 8 (Xb 94) (Xv (.int (Xn 16)))))
 (Xd (Xz 57 (Xj (sA 133) 67))
 (Xd (Zb (Xi (sA 130) 136 Xe))
 (Xd (Zb (Xi (sA 129) 112 (Xa (Xv (.int (Xn 3))) Xe))) Xg)))) Xg)
 (Xd (Xz 96 (Jt (Xp 1 (Xo 7 (Xb 94) (Xv (.int (Xn 2)))) (Xf 0)) (Xk (.fn 744) (Xa (YI 1 (Xa (Xj (sA 123) 19) (Xa (Xv (.int (Xn 65535))) Xe))) Xe)) (Jn [])))
 (Xd (Xz 69 (Xi (Xb 9) 135 Xe))
 (Xd (Xq (Xk (.cls 726) (Xa (Yv (sA 124) (Xf 1)) (Xa (Yv (sA 125) (Xf 1)) (Xa (Xb 56) (Xa (Xb 57) (Xa (Xb 94) (Xa (Xb 69) (Xa (Xf 0) (Xa (Xb 96) (Xa (Xb 97) Xe))))))))))) Xg)))))⟩
def Xja:X7:=⟨[137,101],[],
 (Xd (Xz 100 (Xk (.fn 765) (Xa (Xj (Xb 137) 100) (Xa (Xb 101) Xe))))
 (Xd (Yn (Xp 6 (Xb 100) XD) (Xd Z4 Xg) Xg)
 (Xd (Xl (Xb 137) 100 (Xb 100)) Xg)))⟩
def Xjb:X7:=⟨[137,128],[],
 (Xd (Xl (Xb 137) 100 (Xv (.str 0)))
 (Xd (Yn (Xp 7 (Xb 128) XD) (Xd (Xl (Xb 137) 128 (Xb 128)) Xg) Xg)
 (Xd (Ip (Yh 109) (Yg (Xa (Xv (.int (Xn 1))) (Xa (Xv (.int (Xn 2))) (Xa (Xv (.int (Xn 3))) (Xa (Xv (.int (Xn 4))) Xe))))) (Xd (Zb (Xi (Xj (Xb 137) 129) 112 (Xa (Xb 109) Xe))) Xg)) Xg)))⟩
def Xjc:X7:=⟨[137],[],
 (Xd (Yn (Xp 0 (Xj (Xb 137) 128) (Ju 16)) (Xd Z4 Xg) Xg)
 (Xd (Yn (Xp 7 (Xj (Xb 137) 128) XD) (Xd Z4 Xg) Xg) Xg))⟩
def Xjd:X7:=⟨[137,15],[],
 (Xd (Zb (Xk (.fn 917) (Xa (Xb 137) (Xa (Ju 17) Xe))))
 (Xd (Xq (Xk (.fn 994) (Xa (Xb 137) (Xa (Xb 15) Xe)))) Xg))⟩
def Xje:X7:=⟨[137,49,15],[],
 (Xd (Zb (Xk (.fn 931) (Xa (Xb 137) Xe)))
 (Xd (Yn (Wf (Ur (tV (Xk (.fn 772) (Xa (Xj (Xb 137) 100) Xe)))) (tV (Xj (Xj (Xb 137) 134) 62))) (Xd Z4 Xg) Xg)
 (Xd (Xz 50 (Xi (Xj (Xb 137) 134) 71 (Xa (Xb 49) Xe)))
 (Xd (Xq (Yg (Xa (Xb 50) (Xa (Xk (.fn 994) (Xa (Xb 137) (Xa (Xb 15) Xe))) Xe)))) Xg))))⟩
def Xjf:X7:=⟨[137,15],[],
 (Xd (Yn (tV (Xj (Xj (Xb 137) 134) 62)) (Xd Z4 Xg) Xg)
 (Xd (Yn (Xp 6 (Xk (.fn 765) (Xa (Xj (Xb 137) 100) (Xa (Ju 18) Xe))) XD) (Xd Z4 Xg) Xg)
 (Xd (Yn (Xp 8 (Xj (Xb 137) 100) (Yg (Xa (Xv (.str 1)) (Xa (Xv (.str 2)) Xe)))) (Xd (Zb (Xk (.fn 924) (Xa (Xb 137) (Xa XD Xe))))
 (Xd (Xq (Yx Xe)) Xg)) Xg)
 (Xd (Zb (Xi (Xj (Xb 137) 134) 138 Xe))
 (Xd (Xq (Xk (.fn 994) (Xa (Xb 137) (Xa (Xb 15) Xe)))) Xg)))))⟩
def Xjg:X7:=⟨[137],[],
 (Xd (Xq (Xi (Xb 137) 139 (Xa (Xv (.int (Xn 16))) (Xa (Xj (Xj (Xb 137) 134) 67) Xe)))) Xg)⟩
def Xjh:X7:=⟨[137],[],
 (Xd (Xq (Xi (Xb 137) 139 (Xa (Xv (.int (Xn 2))) (Xa (Xi (Xj (Xb 137) 134) 140 Xe) Xe)))) Xg)⟩
def Xji:X7:=⟨[141,83],[],
 (Xd (Xz 94 (Xv (.int (Xn 16))))
 (Xd (Yn (tV (Xb 141)) (Xd (Xz 94 (Xo 8 (Xb 94) (Xv (.int (Xn 8))))) Xg) Xg)
 (Xd (Yn (tV (Xb 83)) (Xd (Xz 94 (Xo 8 (Xb 94) (Xv (.int (Xn 1))))) Xg) Xg)
 (Xd (Xq (Xb 94)) Xg))))⟩
def Xjj:X7:=⟨[137],[],
 (Xd (Yn (Op (tV (Xj (Xj (Xb 137) 134) 62)) (tV (Xk (.fn 779) (Xa (Xj (Xb 137) 100) Xe)))) (Xd (Xz 100 (Xk (.fn 765) (Xa (Xj (Xb 137) 100) (Xa (Ju 18) Xe))))
 (Xd (Yn (Xp 7 (Xb 100) XD) (Xd (Xl (Xb 137) 100 (Xb 100)) Xg) Xg) Xg)) Xg) Xg)⟩
def Xjk:X7:=⟨[137,15],[],
 (Xd (Xz 78 (Yx Xe))
 (Xd (Xz 6 (Xj (Xj (Xb 137) 123) 6))
 (Xd (Xz 58 (Xj (Xj (Xb 137) 134) 66))
 (Xd (Ip (Zj [56,49,141,83]) (Xi (Xj (Xb 137) 134) 142 (Xa (Xi (Xj (Xb 137) 131) 69 Xe) (Xa (Xj (Xb 137) 76) Xe))) (Xd (Xz 143 (Xk (.fn 96) (Xa (Xb 56) (Xa (Xo 0 (YI 0 (Xa (Xb 49) Xe)) (Jt (tV (Xb 83)) (Xf 1) (Xf 0))) (Xa (Xb 6) Xe)))))
 (Xd (Yn (tV (Xk (.fn 110) (Xa (Xb 58) (Xa (Xb 143) (Xa (Xb 6) Xe))))) (Xd (Zb (Xi (Xj (Xb 137) 132) 144 (Xa (Xb 143) (Xa (Xb 15) Xe)))) Xg) Xg)
 (Xd (Zb (Xi (Xb 78) 0 (Xa (Xi (Xb 137) 139 (Xa (Xk (.fn 973) (Xa (Xb 141) (Xa (Xb 83) Xe))) (Xa (Xb 56) (Xa (Xb 49) Xe)))) Xe))) Xg))))
 (Xd (Xq (Xb 78)) Xg)))))⟩
def Xjl:X7:=⟨[137,15],[],
 (Xd (Zb (Xk (.fn 980) (Xa (Xb 137) Xe)))
 (Xd (Xz 78 (Yx Xe))
 (Xd (Yn (Xp 8 (Xj (Xb 137) 100) (Yg (Xa (Xv (.str 2)) (Xa (Xv (.str 3)) Xe)))) (Xd (Yn (Xp 0 (Xj (Xj (Xb 137) 134) 67) (Xj (Xj (Xb 137) 134) 60)) (Xd (Zb (Xi (Xb 78) 0 (Xa (Xk (.fn 966) (Xa (Xb 137) Xe)) Xe)))
 (Xd (Zb (Xi (Xj (Xb 137) 132) 144 (Xa (Xj (Xj (Xb 137) 134) 67) (Xa (Xb 15) Xe)))) Xg)) Xg) Xg) (Xd (Yn (tV (Xk (.fn 779) (Xa (Xj (Xb 137) 100) Xe))) (Xd (Xz 78 (Xk (.fn 987) (Xa (Xb 137) (Xa (Xb 15) Xe)))) Xg) Xg) Xg))
 (Xd (Zb (Xk (.fn 1001) (Xa (Xb 137) (Xa (Xb 15) Xe))))
 (Xd (Xq (Xb 78)) Xg)))))⟩
def Xdi:X7:=⟨[137,15],[],
 (Xd (Yn (Xp 8 (Xj (Xb 137) 100) (Yg (Xa (Xv (.str 0)) (Xa (Xv (.str 1)) (Xa (Xv (.str 10)) Xe))))) (Xd XeY Xg) Xg)
 (Xd (Yn (Xp 0 (Xi (Xj (Xb 137) 134) 28 Xe) (Xf 0)) (Xd (Zb (Xi (Xj (Xb 137) 129) 112 (Xa (Xv (.int (Xn 1))) Xe))) Xg) (Xd (Yn (Xp 6 (Xi (Xj (Xb 137) 129) 145 (Xa (Xv (.int (Xn 1))) Xe)) XD) (Xd (Zb (Xi (Xj (Xb 137) 129) 71 (Xa (Xv (.int (Xn 1))) (Xa (Xi (Xj (Xb 137) 132) 146 (Xa (Xb 15) Xe)) Xe)))) Xg) Xg) Xg))
 (Xd (Yn (Wf (Ur (tV (Xk (.fn 779) (Xa (Xj (Xb 137) 100) Xe)))) (Ur (tV (Xi (Xj (Xb 137) 134) 89 Xe)))) (Xd (Zb (Xi (Xj (Xb 137) 129) 112 (Xa (Xv (.int (Xn 2))) Xe)))
 (Xd (Xl (Xb 137) 127 (Xf 0)) Xg)) (Xd (Yn (Xp 6 (Xi (Xj (Xb 137) 129) 145 (Xa (Xv (.int (Xn 2))) Xe)) XD) (Xd (Zb (Xi (Xj (Xb 137) 129) 71 (Xa (Xv (.int (Xn 2))) (Xa (Xo 0 (Xb 15) (Xk (.fn 1008) (Xa (Xb 137) Xe))) Xe)))) Xg) Xg) Xg)) Xg)))⟩
def Xdj:X7:=⟨[137],[],
 (Xd (Xz 31 (Xj (Xj (Xb 137) 132) 31))
 (Xd (Xq (Xi (Xb 31) 37 (Xa (Xo 2 (Xi (Xb 31) 40 Xe) (Xo 5 (Xf 2) (YI 1 (Xa (Xj (Xb 137) 127) (Xa (Xv (.int (Xn 7))) Xe))))) Xe))) Xg))⟩
def Xdk:X7:=⟨[137,15],[],
 (Xd (Xz 78 (Yx Xe))
 (Xd (Ip (Yh 109) (Xi (Xj (Xb 137) 129) 12 (Xa (Xb 15) Xe)) (Xd (Yn (Xp 0 (Xj (Xb 137) 100) (Xv (.str 0))) (Xd (Xq (Xb 78)) Xg) Xg)
 (Xd (Yn (Xp 0 (Xb 109) (Xv (.int (Xn 1)))) (Xd (Zb (Xi (Xb 78) 1 (Xa (Xk (.fn 1022) (Xa (Xb 137) (Xa (Xb 15) Xe))) Xe))) Xg) (Xd (Yn (Xp 0 (Xb 109) (Xv (.int (Xn 2)))) (Xd (Zb (Xi (Xb 78) 1 (Xa (Xk (.fn 1036) (Xa (Xb 137) (Xa (Xb 15) Xe))) Xe))) Xg) (Xd (Yn (Xp 0 (Xb 109) (Xv (.int (Xn 3)))) (Xd (Yn (Xp 7 (Xi (Xj (Xb 137) 130) 147 Xe) XD) (Xd (Zb (Xi (Xb 78) 0 (Xa (Xk (.fn 959) (Xa (Xb 137) Xe)) Xe))) Xg) Xg) Xg) (Xd (Yn (Xp 0 (Xj (Xb 137) 100) (Xv (.str 10))) (Xd (Zb (Xk (.fn 924) (Xa (Xb 137) (Xa XD Xe)))) Xg) Xg) Xg)) Xg)) Xg)) Xg)))
 (Xd (Xq (Xb 78)) Xg)))⟩
def Xdl:X7:=⟨[137,15],[],
 (Xd (Xz 28 (Xi (Xj (Xb 137) 134) 28 Xe))
 (Xd (Yn (Xp 0 (Xb 28) (Xf 0)) (Xd (Xq (Yx Xe)) Xg) Xg)
 (Xd (Zb (Xi (Xj (Xb 137) 131) 150 (Xa (Xb 28) Xe)))
 (Xd (Yn (Ur (tV (Xi (Xj (Xb 137) 132) 149 Xe))) (Xd (Zb (Xk (.fn 924) (Xa (Xb 137) (Xa (Ju 16) Xe))))
 (Xd (Xq (Yx Xe)) Xg)) Xg)
 (Xd (Zb (Xi (Xj (Xb 137) 134) 148 (Xa (Xj (Xj (Xb 137) 134) 68) Xe)))
 (Xd (Xz 78 (Yx (Xa (Xk (.fn 1029) (Xa (Xb 137) Xe)) Xe)))
 (Xd (Zb (Xi (Xj (Xb 137) 129) 71 (Xa (Xv (.int (Xn 1))) (Xa (Xi (Xj (Xb 137) 132) 146 (Xa (Xb 15) Xe)) Xe))))
 (Xd (Xq (Xb 78)) Xg))))))))⟩
def Xdm:X7:=⟨[137],[],
 (Xd (Zb (Xi (Xj (Xb 137) 132) 153 Xe))
 (Xd (J3 [56,49,151,83] (Xi (Xj (Xb 137) 134) 152 Xe))
 (Xd (Yn (tV (Xb 151)) (Xd (Xq (Xi (Xb 137) 139 (Xa (Xv (.int (Xn 2))) (Xa (Xb 56) Xe)))) Xg) Xg)
 (Xd (Xq (Xi (Xb 137) 139 (Xa (Xk (.fn 973) (Xa (XE true) (Xa (Xb 83) Xe))) (Xa (Xb 56) (Xa (Xb 49) Xe))))) Xg))))⟩
def Xdn:X7:=⟨[137,15],[],
 (Xd (Xz 154 (Xi (Xj (Xb 137) 134) 155 Xe))
 (Xd (Yn (Xp 6 (Xb 154) XD) (Xd (Xq (Xk (.fn 994) (Xa (Xb 137) (Xa (Xb 15) Xe)))) Xg) Xg)
 (Xd (J3 [56,49,141,83] (Xb 154))
 (Xd (Xl (Xb 137) 126 (Xo 0 (Xj (Xb 137) 126) (Xf 1)))
 (Xd (Yn (Xp 4 (Xj (Xb 137) 126) (Xj (Xj (Xb 137) 123) 32)) (Xd (Zb (Xk (.fn 924) (Xa (Xb 137) (Xa (Ju 16) Xe))))
 (Xd (Xq (Yx Xe)) Xg)) Xg)
 (Xd (Xl (Xb 137) 127 (Xo 0 (Xj (Xb 137) 127) (Xf 1)))
 (Xd (Xz 78 (Yx (Xa (Xi (Xb 137) 139 (Xa (Xk (.fn 973) (Xa (Xb 141) (Xa (Xb 83) Xe))) (Xa (Xb 56) (Xa (Xb 49) Xe)))) Xe)))
 (Xd (Zb (Xk (.fn 1001) (Xa (Xb 137) (Xa (Xb 15) Xe))))
 (Xd (Xq (Xb 78)) Xg)))))))))⟩
def Xdo:X7:=⟨[9,6],[],
 (Xd (Xl (Xb 9) 6 (Xb 6))
 (Xd (Xl (Xb 9) 156 (Yx Xe)) Xg))⟩
def Xdp:X7:=⟨[9],[],
 (Xd (Xq (Xk (.fn 96) (Xa (sA 67) (Xa (Xo 1 (sA 47) (YI 0 (Xa (sA 162) Xe))) (Xa (sA 6) Xe))))) Xg)⟩
def Xdq:X7:=⟨[9,19],[],
 (Xd (Yn (Wf (tV (sA 83)) (Ur (tV (Xk (.fn 110) (Xa (sA 160) (Xa (Xi (Xb 9) 163 Xe) (Xa (sA 6) Xe))))))) (Xd (Xq (XE false)) Xg) Xg)
 (Xd (Xq (YQ 5 (Xk (.fn 103) (Xa (sA 160) (Xa (Xi (Xb 9) 163 Xe) (Xa (sA 6) Xe)))) (YI 2 (Xa (Xf 1) (Xa (YI 1 (Xa (Xb 19) (Xa (Xo 3 (sA 47) (Xf 2)) Xe))) Xe))))) Xg))⟩
def Xdr:X7:=⟨[9],[],
 (Xd (Yn (tV (Xk (.fn 110) (Xa (sA 160) (Xa (sA 67) (Xa (sA 6) Xe))))) (Xd (Xq (Xf 0)) Xg) Xg)
 (Xd (Xq (Xk (.fn 103) (Xa (sA 67) (Xa (sA 160) (Xa (sA 6) Xe))))) Xg))⟩
def Xds:X7:=⟨[9],[],
 (Xd (Yn (tV (Xi (Xb 9) 165 (Xa (sA 19) Xe))) (Xd (Xl (Xb 9) 160 (Xi (Xb 9) 163 Xe)) Xg) Xg)
 (Xd (Xq (Xi (Xb 9) 164 Xe)) Xg))⟩
def MO:X7:=⟨[166,167],[],
 (Xd (Xz 170 (Xf 0))
 (Xd (Yn (Xp 2 (Xb 167) (YI 0 (Xa (Xb 166) Xe))) (Xd (Xz 170 (Yv (Xb 166) (Xb 167))) Xg) Xg)
 (Xd (Xz 169 (YI 2 (Xa (YI 3 (Xa (Xb 170) Xe)) (Xa (YI 3 (Xa (Xo 1 (Xd9 (Xf 1)) (Xb 170)) Xe)) Xe))))
 (Xd (Xz 168 (Xo 4 (YI 3 (Xa (Xo 2 (Xo 0 (Xo 0 (Xo 0 (Xo 4 (YI 3 (Xa (Xb 169) Xe)) (Xf 2147483629)) (Xo 2 (Xo 2 (Xf 7919) (Xb 167)) (Xb 167))) (Xo 2 (Xf 31) (Xb 167))) (Xf 17)) (Xf 48271)) Xe)) (Xf 2147483647)))
 (Xd (Xq (Yx (Xa (Xo 2 (Xb 169) (YI 3 (Xa (YQ 5 (Xb 169) (Xo 5 (Xf 10) (Xf 18))) Xe))) (Xa (Xb 168) Xe)))) Xg)))))⟩
def Wr:X7:=⟨[171,172],[],
 (Xd (Yn (Xp 4 (Yv (Xb 171) (Xf 0)) (Xf 0)) (Xd (Xz 173 (Xo 4 (YI 3 (Xa (Yv (Xb 171) (Xf 0)) Xe)) (Xb 172)))
 (Xd (N8 (Xb 171) (Xf 0) (Xo 3 (Yv (Xb 171) (Xf 0)) (Xb 172)))
 (Xd (Xq (Xb 173)) Xg))) Xg)
 (Xd (N8 (Xb 171) (Xf 1) (Xo 4 (YI 3 (Xa (Xo 0 (Xo 2 (Yv (Xb 171) (Xf 1)) (Xf 39373)) (Xf 7)) Xe)) (Xf 2147483647)))
 (Xd (Xq (Xo 4 (YI 3 (Xa (Xo 3 (Xo 4 (YI 3 (Xa (Xo 2 (Yv (Xb 171) (Xf 1)) (Yv (Xb 171) (Xf 1))) Xe)) (Xf 2147483629)) (Xf 32)) Xe)) (Xb 172))) Xg)))⟩
def IY:X7:=⟨[171,174],[],
 (Xd (Xq (Yv (Xb 174) (Xk (.fn 1280) (Xa (Xb 171) (Xa (YI 0 (Xa (Xb 174) Xe)) Xe))))) Xg)⟩
def Xdt:X7:=⟨[123,69],[],
 (Xd (Xz 137 (Xk (.cls 906) (Xa (Xb 123) (Xa (Yg (Xa (Xf 1) (Xa (Xf 10) Xe))) (Xa (Yg (Xa (Xf 2) (Xa (Xf 20) Xe))) (Xa (Xf 250) Xe))))))
 (Xd (Zb (Xk (.fn 938) (Xa (Xb 137) (Xa (Xf 0) Xe))))
 (Xd (Zb (Xi (Xj (Xb 137) 134) 176 (Xa (Xj (Xj (Xb 137) 134) 67) Xe)))
 (Xd (Zb (Xk (.fn 917) (Xa (Xb 137) (Xa (Ju 19) Xe))))
 (Xd (Zb (Xk (.fn 994) (Xa (Xb 137) (Xa (Xf 0) Xe))))
 (Xd (Zb (Xi (Xj (Xb 137) 134) 175 (Xa (Xf 8) (Xa (Xj (Xj (Xb 137) 134) 68) (Xa (Xb 69) Xe)))))
 (Xd (Xq (Xb 137)) Xg)))))))⟩
def IZ:X7:=⟨[123,177],[],
 (Xd (Xz 20 (YI 1 (Xa (YI 2 (Xa (Xj (Xb 123) 118) (Xa (Xj (Xb 123) 119) Xe))) (Xa (Xj (Xb 123) 120) Xe))))
 (Xd (Xq (YI 1 (Xa (YI 2 (Xa (Xo 2 (Xb 20) (Xo 5 (Xf 2) (Xb 177))) (Xa (Xj (Xb 123) 119) Xe))) (Xa (Xj (Xb 123) 120) Xe)))) Xg))⟩
def Xdu:X7:=⟨[137,28],[],
 (Xd (Xz 48 (Xj (Xb 137) 131))
 (Xd (Yn (Xp 1 (Yg (Xa (Xi (Xb 48) 69 Xe) (Xa (Xj (Xb 48) 26) (Xa (Xj (Xb 48) 25) Xe)))) (Yg (Xa (Xf 4) (Xa (YI 2 (Xa (Xo 3 (Xb 28) (Xf 2)) (Xa (Xf 8) Xe))) (Xa (Xf 0) Xe))))) (Xd (Xq (XE false)) Xg) Xg)
 (Xd (Xq (YQ 0 (Yg (Xa (Xj (Xb 48) 24) (Xa (Xj (Xb 48) 23) (Xa (Xj (Xb 48) 22) Xe)))) (Yg (Xa (Xf 0) (Xa (XE false) (Xa (XE true) Xe)))))) Xg)))⟩
def Xdv:X7:=⟨[137,78,49,83],[],
 (Xd (Yn (Xp 1 (Uu (Yg (Xa (Xj (Xb 178) 56) (Xa (Xj (Xb 178) 97) (Xa (Xo 4 (Xj (Xb 178) 94) (Xf 2)) Xe)))) (Yh 178) [] (Xb 78)) (Yx (Xa (Yg (Xa (Xj (Xj (Xb 137) 134) 68) (Xa (Xb 49) (Xa (YI 3 (Xa (Xb 83) Xe)) Xe)))) Xe))) (Xd (Xq (XE false)) Xg) Xg)
 (Xd (Xq (YQ 0 (Xi (Xj (Xb 137) 134) 28 Xe) (Xo 0 (YI 0 (Xa (Xb 49) Xe)) (YI 3 (Xa (Xb 83) Xe))))) Xg))⟩
def Ws:X7:=⟨[171,123,49,179],[],
 (Xd (Xz 137 (Xk (.fn 1294) (Xa (Xb 123) (Xa (Xk (.fn 1287) (Xa (Xb 171) (Xa (Yx (Xa (Xf 8) (Xa (Xf 12) (Xa (Xf 40) Xe)))) Xe))) Xe))))
 (Xd (Xl (Xj (Xb 137) 131) 27 (Xk (.fn 1287) (Xa (Xb 171) (Xa (Yx (Xa (Xf 8) (Xa (Xf 16) (Xa (Xf 31) Xe)))) Xe))))
 (Xd (Zb (Xk (.fn 945) (Xa (Xb 137) (Xa (Xb 49) (Xa (Xf 3) Xe)))))
 (Xd (Yn (tV (Xb 179)) (Xd (Zb (Xk (.fn 952) (Xa (Xb 137) (Xa (Xf 3) Xe)))) Xg) Xg)
 (Xd (Zb (Xi (Xj (Xb 137) 129) 71 (Xa (Xf 4) (Xa (Xf 9999) Xe))))
 (Xd (Xz 12 (Xo 0 (Xf 3) (Xk (.fn 1301) (Xa (Xb 123) (Xa (Xf 0) Xe)))))
 (Xd (Xz 83 (Uz (YQ 4 (Xi (Xj (Xb 137) 134) 28 Xe) (YI 0 (Xa (Xb 49) Xe))) (YQ 3 (YI 0 (Xa (Xb 49) Xe)) (Xf 4))))
 (Xd (Dn (Yh 39) (Xa (Xj (Xb 123) 32) Xe) (Xd (J3 [28,106] (Yg (Xa (Xi (Xj (Xb 137) 134) 28 Xe) (Xa (Xk (.fn 1280) (Xa (Xb 171) (Xa (Xf 3) Xe))) Xe))))
 (Xd (Gp [((Xj (Xb 137) 131),24),((Xj (Xb 137) 131),23)] (Yg (Xa (Xk (.fn 1280) (Xa (Xb 171) (Xa (Xf 3) Xe))) (Xa (YQ 0 (Xk (.fn 1280) (Xa (Xb 171) (Xa (Xf 2) Xe))) (Xf 0)) Xe))))
 (Xd (Yn (Wf (Xp 1 (Xi (Xj (Xb 137) 129) 145 (Xa (Xf 1) Xe)) (Xb 12)) (Xp 1 (Xk (.fn 1015) (Xa (Xb 137) (Xa (Xo 1 (Xb 12) (Xf 1)) Xe))) (Yx Xe))) (Xd (Xq (XE false)) Xg) Xg)
 (Xd (Xz 78 (Xk (.fn 1015) (Xa (Xb 137) (Xa (Xo 0 (Xb 12) (Xb 106)) Xe))))
 (Xd (Xz 12 (Xo 0 (Xo 0 (Xb 12) (Xb 106)) (Xk (.fn 1301) (Xa (Xb 123) (Xa (Xo 0 (Xb 39) (Xf 1)) Xe)))))
 (Xd (Yn (Wf (Ur (tV (Xk (.fn 1313) (Xa (Xb 137) (Xa (Xb 78) (Xa (Zm (Xb 49) none (some (Xf 4))) (Xa (Xb 83) Xe))))))) (Ur (tV (Xk (.fn 1308) (Xa (Xb 137) (Xa (Xb 28) Xe)))))) (Xd (Xq (XE false)) Xg) Xg) Xg)))))))
 (Xd (Yn (Wf (Xp 1 (Xk (.fn 1015) (Xa (Xb 137) (Xa (Xb 12) Xe))) (Yx Xe)) (Xp 1 (Yg (Xa (Xj (Xb 137) 100) (Xa (Xj (Xb 137) 128) Xe))) (Yg (Xa (Ju 0) (Xa (Ju 16) Xe))))) (Xd (Xq (XE false)) Xg) Xg)
 (Xd (Xq (YQ 0 (Uu (Xi (Xj (Xb 137) 129) 145 (Xa (Xb 109) Xe)) (Yh 109) [137] (Yx (Xa (Xf 1) (Xa (Xf 2) (Xa (Xf 3) (Xa (Xf 4) Xe)))))) (Xo 2 (Yx (Xa XD Xe)) (Xf 4)))) Xg))))))))))⟩
def Xdw:X7:=⟨[123,49],[],
 (Xd (Xz 137 (Xk (.fn 1294) (Xa (Xb 123) (Xa (Xf 40) Xe))))
 (Xd (Zb (Xk (.fn 945) (Xa (Xb 137) (Xa (Xb 49) (Xa (Xf 3) Xe)))))
 (Xd (Zb (Xk (.fn 1015) (Xa (Xb 137) (Xa (Xo 0 (Xf 3) (Xk (.fn 1301) (Xa (Xb 123) (Xa (Xf 0) Xe)))) Xe))))
 (Xd (Zb (Xi (Xj (Xb 137) 134) 176 (Xa (Xo 4 (Xo 0 (Xj (Xj (Xb 137) 134) 68) (YI 0 (Xa (Zm (Xb 49) none (some (Xf 4))) Xe))) (Xf 256)) Xe)))
 (Xd (Xz 78 (Xk (.fn 994) (Xa (Xb 137) (Xa (Xf 99) Xe))))
 (Xd (Xq (Jt (Xp 3 (YI 0 (Xa (Xb 49) Xe)) (Xf 4)) (YQ 0 (Xb 78) (Yx Xe)) (Xk (.fn 1313) (Xa (Xb 137) (Xa (Xb 78) (Xa (Zm (Xb 49) (some (Xf 4)) (some (Xf 8))) (Xa (XE false) Xe))))))) Xg))))))⟩
def Xdx:X7:=⟨[171,123,49],[],
 (Xd (Xz 69 (Xk (.fn 1280) (Xa (Xb 171) (Xa (Xf 3) Xe))))
 (Xd (Xz 137 (Xk (.fn 1294) (Xa (Xb 123) (Xa (Xf 12) Xe))))
 (Xd (Zb (Xi (Xj (Xb 137) 134) 175 (Xa (Xf 9) (Xa (Xj (Xj (Xb 137) 134) 68) (Xa (Xb 69) Xe)))))
 (Xd (Yn (Wf (Xp 1 (Yv (Xk (.fn 945) (Xa (Xb 137) (Xa (Xb 49) (Xa (Xf 3) Xe)))) (Xf 1)) (Yx Xe)) (Xp 7 (Xi (Xj (Xb 137) 129) 145 (Xa (Xf 1) Xe)) XD)) (Xd (Xq (XE false)) Xg) Xg)
 (Xd (Xz 12 (Xo 0 (Xf 3) (Xk (.fn 1301) (Xa (Xb 123) (Xa (Xf 0) Xe)))))
 (Xd (Yn (Wf (Xp 1 (Xi (Xj (Xb 137) 129) 145 (Xa (Xf 2) Xe)) (Xb 12)) (Xp 1 (Xk (.fn 1015) (Xa (Xb 137) (Xa (Xo 1 (Xb 12) (Xf 1)) Xe))) (Yx Xe))) (Xd (Xq (XE false)) Xg) Xg)
 (Xd (Xz 78 (Xk (.fn 1015) (Xa (Xb 137) (Xa (Xb 12) Xe))))
 (Xd (Yn (Xp 1 (Uu (Yg (Xa (Xj (Xb 178) 56) (Xa (Xj (Xb 178) 97) Xe))) (Yh 178) [] (Xb 78)) (Yx (Xa (Yg (Xa (Xf 251) (Xa (Zm (Xb 49) none (some (YI 2 (Xa (Xf 1) (Xa (Xb 69) Xe))))) Xe))) Xe))) (Xd (Xq (XE false)) Xg) Xg)
 (Xd (Xz 180 (Yx (Xa (Xi (Xj (Xb 137) 129) 145 (Xa (Xf 1) Xe)) (Xa (Xi (Xj (Xb 137) 129) 145 (Xa (Xf 2) Xe)) Xe))))
 (Xd (Yn (Xp 4 (Xb 69) (Xf 0)) (Xd (Xq (Uz (YQ 0 (Xi (Xj (Xb 137) 134) 28 Xe) (Xb 69)) (YQ 0 (Xb 180) (Yx (Xa (Xo 0 (Xb 12) (Xk (.fn 1301) (Xa (Xb 123) (Xa (Xf 0) Xe)))) (Xa XD Xe)))))) Xg) Xg)
 (Xd (Xq (Uz (YQ 0 (Xi (Xj (Xb 137) 134) 28 Xe) (Xf 0)) (YQ 0 (Xb 180) (Yx (Xa XD (Xa (Xo 0 (Xb 12) (Xk (.fn 1301) (Xa (Xb 123) (Xa (Xf 1) Xe)))) Xe)))))) Xg)))))))))))⟩
def Xdy:X7:=⟨[],[],
 (Xd (Xz 106 (Xk (.cls 906) (Xa (Xk (.cls 863) (Xa (Xf 256) (Xa (Xf 4) (Xa (Xf 16) (Xa (Xf 16) (Xa (Xf 2) (Xa (Xf 2) (Xa (Xf 9999) (Xa (Xf 1) (Xa (Xf 2) (Xa (Xf 3) Xe))))))))))) (Xa (Yg (Xa (Xf 1) (Xa (Xf 10) Xe))) (Xa (Yg (Xa (Xf 2) (Xa (Xf 20) Xe))) (Xa (Xf 0) Xe))))))
 (Xd (Xl (Xb 106) 127 (Xf 9))
 (Xd (Xz 48 (Xk (.cls 261) (Xa (Xf 2) (Xa (Xf 4) (Xa (Xf 30) Xe)))))
 (Xd (Xz 182 (Yx (Xa (Xi (Xb 48) 69 Xe) (Xa (Xj (Xb 48) 26) (Xa (Xj (Xb 48) 25) (Xa (Xj (Xb 48) 24) (Xa (Xj (Xb 48) 23) (Xa (Xj (Xb 48) 22) Xe))))))))
 (Xd (Yn (Wf (Xp 1 (Xk (.fn 1008) (Xa (Xb 106) Xe)) (Xf 256)) (Xp 1 (Xb 182) (Yx (Xa (Xf 4) (Xa (Xf 30) (Xa (Xf 0) (Xa (Xf 0) (Xa (XE false) (Xa (XE false) Xe))))))))) (Xd (Xq (XE false)) Xg) Xg)
 (Xd (Xz 137 (Xk (.fn 1294) (Xa (Xk (.cls 863) (Xa (Xf 256) (Xa (Xf 4) (Xa (Xf 16) (Xa (Xf 16) (Xa (Xf 6) (Xa (Xf 4) (Xa (Xf 24) (Xa (Xf 3) (Xa (Xf 2) (Xa (Xf 12) Xe))))))))))) (Xa (Xf 12) Xe))))
 (Xd (Xl (Xb 137) 133 (Xk (.cls 1262) (Xa (Xf 9) (Xa (Xf 256) (Xa (Xf 16) (Xa (Xf 4) Xe))))))
 (Xd (Zb (Xi (Xj (Xb 137) 130) 181 (Xa (XE true) (Xa (Xf 5) Xe))))
 (Xd (Zb (Xi (Xj (Xb 137) 129) 71 (Xa (Xf 3) (Xa (Xi (Xj (Xb 137) 130) 147 Xe) Xe))))
 (Xd (Yn (Xp 1 (Xk (.fn 1015) (Xa (Xb 137) (Xa (Xf 6) Xe))) (Yx Xe)) (Xd (Xq (XE false)) Xg) Xg)
 (Xd (Xq (YQ 0 (Uu (Yg (Xa (Xj (Xb 178) 56) (Xa (Xj (Xb 178) 57) (Xa (Xj (Xb 178) 94) Xe)))) (Yh 178) [] (Xk (.fn 1015) (Xa (Xb 137) (Xa (Xf 7) Xe)))) (Yx (Xa (Yg (Xa (Xf 251) (Xa (Xf 10) (Xa (Xf 16) Xe)))) Xe)))) Xg)))))))))))⟩
noncomputable def Xnx:Ig:=⟨138,[(181,146),(136,167),(147,174)],[],15360⟩
noncomputable def Xny:Ig:=⟨195,[(69,202),(30,216),(150,258)],[],266862592⟩
noncomputable def Xnz:Ig:=⟨279,[(144,293),(153,300),(149,314),(41,328),(146,335)],[],66571993088⟩
noncomputable def XnA:Ig:=⟨356,[(46,377),(40,384),(37,391)],[],65970700812288⟩
noncomputable def XnB:Ig:=⟨412,[(27,419),(51,426),(71,433),(85,440),(91,447)],[],422212465065984⟩
noncomputable def XnC:Ig:=⟨468,[(59,475),(70,482)],[],54043195664760896⟩
noncomputable def XnD:Ig:=⟨503,[(28,539),(77,560),(73,553),(79,546),(82,602),(175,518),(71,525),(138,532),(80,567),(74,574),(75,588),(140,595),(142,610),(81,617),(87,624),(152,631),(86,638),(148,645),(88,652),(89,659),(155,666),(176,673)],[(69,510)],589142888854099329088⟩
def XnE:Ig:=⟨702,[],[],311960890490427812415398739968⟩
noncomputable def Jx:Ig:=⟨792,[(112,813),(145,820),(71,799),(111,806),(12,832),(115,839)],[],314377348856600891571182529150976⟩
def XnF:Ig:=⟨860,[],[],10550747216542769741173968545270726720⟩
noncomputable def XnG:Ig:=⟨888,[(139,903),(135,895)],[],43545509143181494672114812422195114934272⟩
def Xky:Ig:=⟨1050,[],[],91343852333181432387730302044767688728495784000⟩
noncomputable def Xkz:Ig:=⟨1147,[(163,1154),(165,1161),(164,1168),(69,1175)],[],11326637689314497616078567125105324412694040150080⟩
noncomputable def Xr:BT Ig:=
 (.node 485 (.node 338 (.node 177 (.leaf 177 Xnx) (.node 261 (.leaf 261 Xny) (.leaf 338 Xnz))) (.node 394 (.leaf 394 XnA) (.node 450 (.leaf 450 XnB) (.leaf 485 XnC)))) (.node 842 (.node 676 (.leaf 676 XnD) (.node 726 (.leaf 726 XnE) (.leaf 842 Jx))) (.node 906 (.node 863 (.leaf 863 XnF) (.leaf 906 XnG)) (.node 1128 (.leaf 1128 Xky) (.leaf 1262 Xkz)))))
noncomputable def NM:List String:=["append","extend","remove","pop","a","n","ring","b","gap","self","delay","has_gap","due","waiting","in_order","now","has_holes","filled","at_once","mss","first","most","is_cautious","is_recovering","duplicates","gathered","threshold","size","flight","half","halved","estimate","most_tries","timed_at","timed_end","tries","seq_end","bounded","ticks","turn","timeout","waited","least","measured","spread4","mean8","plain_timeout","room","held","octets","taken","room_left","at","many","told_ack","told_seq","seq","ack","ahead","is_newer","iss","fin_sent","fin_asked","syn_pending","queue","peer","greatest","next","una","window","take","put","congestion_window","data_sent","is_fin_acked","go_on","is_nagle","unsent","found","usable","is_fin_due","piece_of","may_go","has_fin","is_last","part","reach","ever_sent","is_idle_with_more","needs_probe","is_syn","drop","source_port","target_port","flags","urgent","options","payload","number","bits","state","event","get","given","reached","entries","late","slots","place","key","time","list_of","cancel","keys","order","keys_until","send_room","receive_room","first_timeout","least_timeout","most_timeout","ack_delay","time_wait","limits","local","remote","unanswered","probes","error","wheel","acks","congestion","clock","receiver","sender","window_now","on_sent","tcb","ask_fin","make","start","has_push","pieces","end","sent","time_of","deadline","due_time","back_to","back_off","timed_out","has_syn","first_piece","forget","piece","probe","parts","irs","urgent_at","fin_at","told_edge","assembly","ready","free_edge","told_window","should_tell","script","k","mixed","big","cell","source","top","drawn","things","take_window","acked","doubled","one","is_closing","times","on_octets","told"]
noncomputable def SM:List String:=["closed","listen","syn sent","syn received","established","fin wait 1","fin wait 2","close wait","closing","last ack","time wait","later","now","timeout","abort","reset","timed out","connect","close","syn ack"]
end Tactic
end Mine
namespace Mine
universe u
theorem ff{g:Prop}(h:false=true):g:=Bool.noConfusion h
theorem Xx{α:Type _}{a:α}{g:Prop}(h:none=some a):g:=by injection h
theorem snn{α:Type _}{a:α}{g:Prop}(h:some a=none):g:=by injection h
theorem tf{g:Prop}(h:true=false):g:=Bool.noConfusion h
theorem KI{α β:Type _}{g:Prop}(P:α->β->Prop)(f:∀I:α->β->Prop,(∀a b,P a b->I a b)->(∀a b,I a b->P a b)->g):g:=f P (λ_ _ h=>h) λ_ _ h=>h
theorem Zx{G:Prop}(h:∀g:Prop,(G->g)->g):G:=h G id
@[elab_as_elim] theorem rwm{α:Sort u}{m:α->Prop}{a b:α}(h:a=b)(x:m b):m a:=h▸x
@[elab_as_elim] theorem mE2{α β:Type _}{x a:α}{y b:β}{l:List (α×β)}{m:α->β->Prop}(h:(x,y)∈(a,b)::l)(f:m a b)(k:(x,y)∈l->m x y):m x y:=
 (Qe h).elim (λe=>rwm (m:=λp:α×β=>m p.1 p.2) e f) k
@[elab_as_elim] theorem mE4{α β γ δ:Type _}{x a:α}{y b:β}{z c:γ}{w d:δ}{l:List (α×β×γ×δ)}{m:α->β->γ->δ->Prop}(h:(x,y,z,w)∈(a,b,c,d)::l)(f:m a b c d)(k:(x,y,z,w)∈l->m x y z w):m x y z w:=
 (Qe h).elim (λe=>rwm (m:=λp:α×β×γ×δ=>m p.1 p.2.1 p.2.2.1 p.2.2.2) e f) k
@[elab_as_elim] theorem mE5{α β γ δ ε:Type _}{x a:α}{y b:β}{z c:γ}{w d:δ}{u e:ε}{l:List (α×β×γ×δ×ε)}{m:α->β->γ->δ->ε->Prop}(h:(x,y,z,w,u)∈(a,b,c,d,e)::l)(f:m a b c d e)(k:(x,y,z,w,u)∈l->m x y z w u):m x y z w u:=
 (Qe h).elim (λe=>rwm (m:=λp:α×β×γ×δ×ε=>m p.1 p.2.1 p.2.2.1 p.2.2.2.1 p.2.2.2.2) e f) k
section
variable {p q r s t u v w:Prop}{g:Prop}
theorem Iv(e:p/\q)(f:p->q->g):g:=f e.1 e.2
theorem YF(e:p/\q/\r)(f:p->q->r->g):g:=Iv e.2 (f e.1)
theorem Mf(e:p/\q/\r/\s)(f:p->q->r->s->g):g:=YF e.2 (f e.1)
theorem x05(e:p/\q/\r/\s/\t)(f:p->q->r->s->t->g):g:=Mf e.2 (f e.1)
theorem x06(e:p/\q/\r/\s/\t/\u)(f:p->q->r->s->t->u->g):g:=x05 e.2 (f e.1)
theorem x07(e:p/\q/\r/\s/\t/\u/\v)(f:p->q->r->s->t->u->v->g):g:=x06 e.2 (f e.1)
theorem x08(e:p/\q/\r/\s/\t/\u/\v/\w)(f:p->q->r->s->t->u->v->w->g):g:=x07 e.2 (f e.1)
end
section
variable {A0:Sort _}{p q r s t u:A0->Prop}{g:Prop}
theorem x11(e:∃a,p a)(f:∀a,p a->g):g:=e.elim f
theorem YB(e:∃a,p a/\q a)(f:∀a,p a->q a->g):g:=e.elim λ_ e=>Iv e (f _)
theorem YO(e:∃a,p a/\q a/\r a)(f:∀a,p a->q a->r a->g):g:=e.elim λ_ e=>YF e (f _)
theorem x14(e:∃a,p a/\q a/\r a/\s a)(f:∀a,p a->q a->r a->s a->g):g:=e.elim λ_ e=>Mf e (f _)
theorem x15(e:∃a,p a/\q a/\r a/\s a/\t a)(f:∀a,p a->q a->r a->s a->t a->g):g:=e.elim λ_ e=>x05 e (f _)
theorem x16(e:∃a,p a/\q a/\r a/\s a/\t a/\u a)(f:∀a,p a->q a->r a->s a->t a->u a->g):g:=e.elim λ_ e=>x06 e (f _)
end
section
variable {A0 A1:Sort _}{p q r s t u v w:A0->A1->Prop}{g:Prop}
theorem x21(e:∃a b,p a b)(f:∀a b,p a b->g):g:=e.elim λ_ e=>x11 e (f _)
theorem Y5(e:∃a b,p a b/\q a b)(f:∀a b,p a b->q a b->g):g:=e.elim λ_ e=>YB e (f _)
theorem UB(e:∃a b,p a b/\q a b/\r a b)(f:∀a b,p a b->q a b->r a b->g):g:=e.elim λ_ e=>YO e (f _)
theorem x24(e:∃a b,p a b/\q a b/\r a b/\s a b)(f:∀a b,p a b->q a b->r a b->s a b->g):g:=e.elim λ_ e=>x14 e (f _)
theorem Gw(e:∃a b,p a b/\q a b/\r a b/\s a b/\t a b)(f:∀a b,p a b->q a b->r a b->s a b->t a b->g):g:=e.elim λ_ e=>x15 e (f _)
theorem x26(e:∃a b,p a b/\q a b/\r a b/\s a b/\t a b/\u a b)(f:∀a b,p a b->q a b->r a b->s a b->t a b->u a b->g):g:=e.elim λ_ e=>x16 e (f _)
theorem x28(e:∃a b,p a b/\q a b/\r a b/\s a b/\t a b/\u a b/\v a b/\w a b)(f:∀a b,p a b->q a b->r a b->s a b->t a b->u a b->v a b->w a b->g):g:=e.elim λ_ e=>e.elim λ_ e=>x08 e (f _ _)
end
section
variable {A0 A1 A2:Sort _}{p q r s t u v w:A0->A1->A2->Prop}{g:Prop}
theorem x31(e:∃a b c,p a b c)(f:∀a b c,p a b c->g):g:=e.elim λ_ e=>x21 e (f _)
theorem x32(e:∃a b c,p a b c/\q a b c)(f:∀a b c,p a b c->q a b c->g):g:=e.elim λ_ e=>Y5 e (f _)
theorem x33(e:∃a b c,p a b c/\q a b c/\r a b c)(f:∀a b c,p a b c->q a b c->r a b c->g):g:=e.elim λ_ e=>UB e (f _)
theorem x34(e:∃a b c,p a b c/\q a b c/\r a b c/\s a b c)(f:∀a b c,p a b c->q a b c->r a b c->s a b c->g):g:=e.elim λ_ e=>x24 e (f _)
theorem x35(e:∃a b c,p a b c/\q a b c/\r a b c/\s a b c/\t a b c)(f:∀a b c,p a b c->q a b c->r a b c->s a b c->t a b c->g):g:=e.elim λ_ e=>Gw e (f _)
theorem x36(e:∃a b c,p a b c/\q a b c/\r a b c/\s a b c/\t a b c/\u a b c)(f:∀a b c,p a b c->q a b c->r a b c->s a b c->t a b c->u a b c->g):g:=e.elim λ_ e=>x26 e (f _)
theorem x38(e:∃a b c,p a b c/\q a b c/\r a b c/\s a b c/\t a b c/\u a b c/\v a b c/\w a b c)(f:∀a b c,p a b c->q a b c->r a b c->s a b c->t a b c->u a b c->v a b c->w a b c->g):g:=e.elim λ_ e=>x28 e (f _)
end
section
variable {A0 A1 A2 A3:Sort _}{p q r s t u v:A0->A1->A2->A3->Prop}{g:Prop}
theorem x41(e:∃a b c d,p a b c d)(f:∀a b c d,p a b c d->g):g:=e.elim λ_ e=>x31 e (f _)
theorem x42(e:∃a b c d,p a b c d/\q a b c d)(f:∀a b c d,p a b c d->q a b c d->g):g:=e.elim λ_ e=>x32 e (f _)
theorem x44(e:∃a b c d,p a b c d/\q a b c d/\r a b c d/\s a b c d)(f:∀a b c d,p a b c d->q a b c d->r a b c d->s a b c d->g):g:=e.elim λ_ e=>x34 e (f _)
theorem x46(e:∃a b c d,p a b c d/\q a b c d/\r a b c d/\s a b c d/\t a b c d/\u a b c d)(f:∀a b c d,p a b c d->q a b c d->r a b c d->s a b c d->t a b c d->u a b c d->g):g:=e.elim λ_ e=>x36 e (f _)
theorem x47(e:∃a b c d,p a b c d/\q a b c d/\r a b c d/\s a b c d/\t a b c d/\u a b c d/\v a b c d)(f:∀a b c d,p a b c d->q a b c d->r a b c d->s a b c d->t a b c d->u a b c d->v a b c d->g):g:=e.elim λ_ e=>e.elim λ_ e=>e.elim λ_ e=>e.elim λ_ e=>x07 e (f _ _ _ _)
end
section
variable {A0 A1 A2 A3 A4:Sort _}{p q r s t u:A0->A1->A2->A3->A4->Prop}{g:Prop}
theorem x51(e:∃a b c d h,p a b c d h)(f:∀a b c d h,p a b c d h->g):g:=e.elim λ_ e=>x41 e (f _)
theorem x52(e:∃a b c d h,p a b c d h/\q a b c d h)(f:∀a b c d h,p a b c d h->q a b c d h->g):g:=e.elim λ_ e=>x42 e (f _)
theorem x53(e:∃a b c d h,p a b c d h/\q a b c d h/\r a b c d h)(f:∀a b c d h,p a b c d h->q a b c d h->r a b c d h->g):g:=e.elim λ_ e=>e.elim λ_ e=>x33 e (f _ _)
theorem x54(e:∃a b c d h,p a b c d h/\q a b c d h/\r a b c d h/\s a b c d h)(f:∀a b c d h,p a b c d h->q a b c d h->r a b c d h->s a b c d h->g):g:=e.elim λ_ e=>x44 e (f _)
theorem x55(e:∃a b c d h,p a b c d h/\q a b c d h/\r a b c d h/\s a b c d h/\t a b c d h)(f:∀a b c d h,p a b c d h->q a b c d h->r a b c d h->s a b c d h->t a b c d h->g):g:=e.elim λ_ e=>e.elim λ_ e=>x35 e (f _ _)
theorem x56(e:∃a b c d h,p a b c d h/\q a b c d h/\r a b c d h/\s a b c d h/\t a b c d h/\u a b c d h)(f:∀a b c d h,p a b c d h->q a b c d h->r a b c d h->s a b c d h->t a b c d h->u a b c d h->g):g:=e.elim λ_ e=>x46 e (f _)
end
section
variable {A0 A1 A2 A3 A4 A5:Sort _}{p q r s t u:A0->A1->A2->A3->A4->A5->Prop}{g:Prop}
theorem x66(e:∃a b c d h i,p a b c d h i/\q a b c d h i/\r a b c d h i/\s a b c d h i/\t a b c d h i/\u a b c d h i)(f:∀a b c d h i,p a b c d h i->q a b c d h i->r a b c d h i->s a b c d h i->t a b c d h i->u a b c d h i->g):g:=e.elim λ_ e=>x56 e (f _)
end
section
variable {A0 A1 A2 A3 A4 A5 A6:Sort _}{p q r s t u:A0->A1->A2->A3->A4->A5->A6->Prop}{g:Prop}
theorem x75(e:∃a b c d h i j,p a b c d h i j/\q a b c d h i j/\r a b c d h i j/\s a b c d h i j/\t a b c d h i j)(f:∀a b c d h i j,p a b c d h i j->q a b c d h i j->r a b c d h i j->s a b c d h i j->t a b c d h i j->g):g:=e.elim λ_ e=>e.elim λ_ e=>x55 e (f _ _)
theorem x76(e:∃a b c d h i j,p a b c d h i j/\q a b c d h i j/\r a b c d h i j/\s a b c d h i j/\t a b c d h i j/\u a b c d h i j)(f:∀a b c d h i j,p a b c d h i j->q a b c d h i j->r a b c d h i j->s a b c d h i j->t a b c d h i j->u a b c d h i j->g):g:=e.elim λ_ e=>x66 e (f _)
end
section
variable {A0 A1 A2 A3 A4 A5 A6 A7:Sort _}{p q r s t u v w:A0->A1->A2->A3->A4->A5->A6->A7->Prop}{g:Prop}
theorem x88(e:∃a b c d h i j k,p a b c d h i j k/\q a b c d h i j k/\r a b c d h i j k/\s a b c d h i j k/\t a b c d h i j k/\u a b c d h i j k/\v a b c d h i j k/\w a b c d h i j k)(f:∀a b c d h i j k,p a b c d h i j k->q a b c d h i j k->r a b c d h i j k->s a b c d h i j k->t a b c d h i j k->u a b c d h i j k->v a b c d h i j k->w a b c d h i j k->g):g:=e.elim λ_ e=>e.elim λ_ e=>e.elim λ_ e=>e.elim λ_ e=>e.elim λ_ e=>x38 e (f _ _ _ _ _)
end
section
variable {A0 A1 A2 A3 A4 A5 A6 A7 A8:Sort _}{p q r s t u v w:A0->A1->A2->A3->A4->A5->A6->A7->A8->Prop}{g:Prop}
theorem x98(e:∃a b c d h i j k l,p a b c d h i j k l/\q a b c d h i j k l/\r a b c d h i j k l/\s a b c d h i j k l/\t a b c d h i j k l/\u a b c d h i j k l/\v a b c d h i j k l/\w a b c d h i j k l)(f:∀a b c d h i j k l,p a b c d h i j k l->q a b c d h i j k l->r a b c d h i j k l->s a b c d h i j k l->t a b c d h i j k l->u a b c d h i j k l->v a b c d h i j k l->w a b c d h i j k l->g):g:=e.elim λ_ e=>x88 e (f _)
end
section
variable {a b c d p q r s t:Bool}{g:Prop}
theorem b2(e:(a&&b)=true)(f:a=true->b=true->g):g:=(Qd e).elim f
theorem b3(e:(a&&(b&&c))=true)(f:a=true->b=true->c=true->g):g:=(Qd e).elim λh e=>b2 e (f h)
theorem b4(e:(a&&(b&&(c&&d)))=true)(f:a=true->b=true->c=true->d=true->g):g:=(Qd e).elim λh e=>b3 e (f h)
theorem b5(e:(a&&(b&&(c&&(d&&p))))=true)(f:a=true->b=true->c=true->d=true->p=true->g):g:=(Qd e).elim λh e=>b4 e (f h)
theorem b6(e:(a&&(b&&(c&&(d&&(p&&q)))))=true)(f:a=true->b=true->c=true->d=true->p=true->q=true->g):g:=(Qd e).elim λh e=>b5 e (f h)
theorem b7(e:(a&&(b&&(c&&(d&&(p&&(q&&r))))))=true)(f:a=true->b=true->c=true->d=true->p=true->q=true->r=true->g):g:=(Qd e).elim λh e=>b6 e (f h)
theorem b8(e:(a&&(b&&(c&&(d&&(p&&(q&&(r&&s)))))))=true)(f:a=true->b=true->c=true->d=true->p=true->q=true->r=true->s=true->g):g:=(Qd e).elim λh e=>b7 e (f h)
theorem b9(e:(a&&(b&&(c&&(d&&(p&&(q&&(r&&(s&&t))))))))=true)(f:a=true->b=true->c=true->d=true->p=true->q=true->r=true->s=true->t=true->g):g:=(Qd e).elim λh e=>b8 e (f h)
end
@[elab_as_elim] theorem n3L{m:Nat->Prop}{n:Nat}(h:n < 3)(a:m 0)(b:m 1)(c:m 2):m n:=
 @Nat.rec (λn=>n < 3->m n) (λ_=>a) (λn _=> @Nat.rec (λn=>n + 1 < 3->m (n + 1)) (λ_=>b) (λn _=> @Nat.rec (λn=>n + 2 < 3->m (n + 2)) (λ_=>c) (λn _ h=>absurd (Nat.lt_of_add_lt_add_right (n:=3) (m:=0) h) (Nat.not_lt_zero n)) n) n) n h
@[elab_as_elim] theorem n3E{m:Nat->Prop}{n:Nat}(h:1<=n)(h':n<=3)(a:m 1)(b:m 2)(c:m 3):m n:=
 @Nat.rec (λn=>1<=n->n<=3->m n) (λh=>absurd h (Nat.not_lt_zero 0)) (λn _ _ h=>n3L (m:=λn=>m (n + 1)) (Nat.lt_of_succ_le h) a b c) n h h'
end Mine
namespace Mine
namespace Tactic
theorem Y3{v:V}{s:St}{g:Prop}(h:Xu.no= .ok v s):g:=by injection h
theorem lno{v:List V}{s:St}{g:Prop}(h:Yj.no= .ok v s):g:=by injection h
theorem bno{v:Bool}{s:St}{g:Prop}(h:ZI.no= .ok v s):g:=by injection h
theorem Z8{α β:Type}{o:Option α}{k:α->Option β}{y:β}{g:Prop}(h:oc o none k=some y)(f:∀a,o=some a->k a=some y->g):g:=by
 induction o with
 |none=>exact Xx h
 |some a=>exact f a rfl h
theorem Wg{β:Type}{b:Bool}{x:Option β}{y:β}{g:Prop}(h:bc b x none=some y)(f:b=true->x=some y->g):g:=by
 induction b with
 |false=>exact Xx h
 |true=>exact f rfl h
theorem WA{α:Type}{o:Option α}{k:α->Xu}{v:V}{s:St}{g:Prop}(h:oc o .no k= .ok v s)(f:∀a,o=some a->k a= .ok v s->g):g:=by
 induction o with
 |none=>exact Y3 h
 |some a=>exact f a rfl h
theorem Ny{b:Bool}{x:Xu}{v:V}{s:St}{g:Prop}(h:bc b x .no= .ok v s)(f:b=true->x= .ok v s->g):g:=by
 induction b with
 |false=>exact Y3 h
 |true=>exact f rfl h
theorem ocL{α:Type}{o:Option α}{k:α->Yj}{v:List V}{s:St}{g:Prop}(h:oc o .no k= .ok v s)(f:∀a,o=some a->k a= .ok v s->g):g:=by
 induction o with
 |none=>exact lno h
 |some a=>exact f a rfl h
theorem Js{x:Xu}{k:V->St->Xu}{v:V}{s:St}{g:Prop}(h:x.to .no k= .ok v s)(f:∀u s1,x= .ok u s1->k u s1= .ok v s->g):g:=by
 induction x with
 |no=>exact Y3 h
 |ok u s1=>exact f u s1 rfl h
theorem Xv7{x:Xu}{k:V->St->Yj}{v:List V}{s:St}{g:Prop}(h:x.to .no k= .ok v s)(f:∀u s1,x= .ok u s1->k u s1= .ok v s->g):g:=by
 induction x with
 |no=>exact lno h
 |ok u s1=>exact f u s1 rfl h
theorem Xmt{x:Xu}{k:V->St->ZI}{v:Bool}{s:St}{g:Prop}(h:x.to .no k= .ok v s)(f:∀u s1,x= .ok u s1->k u s1= .ok v s->g):g:=by
 induction x with
 |no=>exact bno h
 |ok u s1=>exact f u s1 rfl h
theorem Ir{x:Yj}{k:List V->St->Xu}{v:V}{s:St}{g:Prop}(h:x.to .no k= .ok v s)(f:∀u s1,x= .ok u s1->k u s1= .ok v s->g):g:=by
 induction x with
 |no=>exact Y3 h
 |ok u s1=>exact f u s1 rfl h
theorem Xv6{x:Yj}{k:List V->St->Yj}{v:List V}{s:St}{g:Prop}(h:x.to .no k= .ok v s)(f:∀u s1,x= .ok u s1->k u s1= .ok v s->g):g:=by
 induction x with
 |no=>exact lno h
 |ok u s1=>exact f u s1 rfl h
theorem Xv5{x:ZI}{k:Bool->St->Xu}{v:V}{s:St}{g:Prop}(h:x.to .no k= .ok v s)(f:∀u s1,x= .ok u s1->k u s1= .ok v s->g):g:=by
 induction x with
 |no=>exact Y3 h
 |ok u s1=>exact f u s1 rfl h
theorem XhD{x:ZI}{k:Bool->St->ZI}{v:Bool}{s:St}{g:Prop}(h:x.to .no k= .ok v s)(f:∀u s1,x= .ok u s1->k u s1= .ok v s->g):g:=by
 induction x with
 |no=>exact bno h
 |ok u s1=>exact f u s1 rfl h
theorem okL{a b:List V}{s t:St}(h:Yj.ok a s= .ok b t):a=b/\s=t:=by cases h;exact ⟨rfl,rfl⟩
theorem XfR{b:Bool}{x y:Xu}{v:V}{s:St}{g:Prop}(h:bc b x y= .ok v s)(f:b=true->x= .ok v s->g)(k:y= .ok v s->g):g:=by
 induction b with
 |false=>exact k h
 |true=>exact f rfl h
theorem nR{v:V}{s:St}:Xu.no≠ .ok v s:=nofun
theorem nS{α:Type}{a:α}:none≠some a:=nofun
theorem h1E{α:Type}{l:List V}{d z:α}{k:V->α}{g:Prop}(h:h1 l d k=z)(n:d≠z)(f:∀a,l=[a]->k a=z->g):g:=by
 induction l with
 |nil=>exact absurd h n
 |cons a r _=>induction r with
  |nil=>exact f a rfl h
  |cons _ _ _=>exact absurd h n
theorem hdE{α:Type}{l:List V}{d z:α}{k:V->List V->α}{g:Prop}(h:hd l d k=z)(n:d≠z)(f:∀a r,l=a::r->k a r=z->g):g:=by
 induction l with
 |nil=>exact absurd h n
 |cons a r _=>exact f a r rfl h
theorem rKE{α:Type}{u:V}{d z:α}{k:Nat->α}{g:Prop}(h:rK u d k=z)(n:d≠z)(f:∀a,u= .ref a->k a=z->g):g:=by
 induction u<;>first |exact absurd h n |exact f _ rfl h
theorem iKE{α:Type}{u:V}{d z:α}{k:LI->α}{g:Prop}(h:iK u d k=z)(n:d≠z)(f:∀a,u= .int a->k a=z->g):g:=by
 induction u<;>first |exact absurd h n |exact f _ rfl h
theorem lKE{α:Type}{o:Option O}{d z:α}{k:List V->α}{g:Prop}(h:lK o d k=z)(n:d≠z)(f:∀a,o=some (.list a)->k a=z->g):g:=by
 induction o with
 |none=>exact absurd h n
 |some x=>induction x<;>first |exact absurd h n |exact f _ rfl h
theorem Xos{o d:Option Bool}{r:Bool}{g:Prop}(h:noF o d=some r)(f:o=some false->r=false->g)(k:d=some r->g):g:=by
 induction o with
 |none=>exact k h
 |some b=>induction b with
  |true=>exact k h
  |false=>exact f rfl (QV h).symm
theorem Xjx{o:Option Int}{k:Nat->Option (List Nat)}{b:List Nat}{g:Prop}(h:Xk4 o k=some b)(f:∀n:Nat,o=some (n:Int)->Nat.ble n 255=true->k n=some b->g):g:=by
 refine Z8 h λz e h=>?_
 subst e
 induction z with
 |ofNat n=>exact Wg h λh1 h2=>f n rfl h1 h2
 |negSucc _=>exact Xx h
theorem Xol{v:V}{k:Nat->Option (List Nat)}{b:List Nat}{g:Prop}(h:Xk5 v k=some b)(f:∀i (n:Nat),v= .int i->i.lit?=some (n:Int)->Nat.ble n 255=true->k n=some b->g):g:=by
 exact iKE h nS λi e h=>Xjx h λn a b c=>f _ n e a b c
theorem Bi{α:Type}{o:Option α}{k:α->Bool}{g:Prop}(h:oc o false k=true)(f:∀a,o=some a->k a=true->g):g:=by
 induction o with
 |none=>exact ff h
 |some a=>exact f a rfl h
theorem GK{β:Type}{b:Bool}{x y:Option β}{z:β}{g:Prop}(h:bc b x y=some z)(f:b=true->x=some z->g)(k:b=false->y=some z->g):g:=by
 induction b with
 |false=>exact k rfl h
 |true=>exact f rfl h
theorem bKE{α:Type}{u:V}{d z:α}{k:Bool->α}{g:Prop}(h:bK u d k=z)(n:d≠z)(f:∀a,u= .bool a->k a=z->g):g:=by
 induction u<;>first |exact absurd h n |exact f _ rfl h
theorem aKE{α:Type}{u:V}{d z:α}{k:Nat->α}{g:Prop}(h:aK u d k=z)(n:d≠z)(f:∀a,u= .fn a->k a=z->g):g:=by
 induction u<;>first |exact absurd h n |exact f _ rfl h
open PySem PySem.W PySem.Calls PyProof.Rows
def aN(H0:Heap)(L:Rn)(h:Heap)(a:Rn):Option (Rn×Obj):=bc (decide (a=L)) none (oc (h.get? a) none λo=>bc (H0.get? a).isSome none (some (a,o)))
def WN(H0:Heap)(L:Rn)(h:Heap):List (Rn×Obj):=(List.range h.objs.size).filterMap (aN H0 L h)
theorem aNE{H0:Heap}{L:Rn}{h:Heap}{a:Rn}{p:Rn×Obj}(e:aN H0 L h a=some p):∃o,p=(a,o)/\h.get? a=some o/\a≠L/\H0.get? a=none:=by
 refine GK e (λ_ e=>Xx e) λq1 e=>Z8 e λo q2 e=>GK e (λ_ e=>Xx e) λq3 e=>?_
 exact ⟨o,(QV e).symm,q2,of_decide_eq_false q1,Option.isSome_eq_false_iff.mp q3 |> Option.isNone_iff_eq_none.mp⟩
theorem Y1{H0:Heap}{L:Rn}{h:Heap}{a:Rn}{o:Obj}:(a,o)∈WN H0 L h↔h.get? a=some o/\a≠L/\H0.get? a=none:=by
 unfold WN
 rw[List.mem_filterMap]
 constructor
 ·intro x
  refine YB x λb _ e=>x14 (aNE e) λo' e1 e2 e3 e4=>?_
  obtain ⟨rfl,rfl⟩:=Prod.mk.inj e1
  exact ⟨e2,e3,e4⟩
 ·intro x
  refine YF x λe1 hn e2=>⟨a,List.mem_range.mpr (Qu e1),?_⟩
  unfold aN
  rw[Qn hn,e2,e1];rfl
theorem XO(H0:Heap)(L:Rn)(h:Heap):News H0 L h (WN H0 L h):=λp hp=>Y1.mp hp
theorem Xck{H0:Heap}{L:Rn}{h:Heap}:∀{l:List Nat},((l.filterMap (aN H0 L h)).map (·.1)).Sublist l:=by
 intro l
 induction l with
 |nil=>exact .slnil
 |cons x r ih=>
  induction q:aN H0 L h x with
  |none=>rw[List.filterMap_cons_none q];exact .cons _ ih
  |some p=>
   rw[List.filterMap_cons_some q,QJ]
   refine YB (aNE q) λo e _=>?_
   rw[e]
   exact .cons₂ _ ih
theorem Oc(H0:Heap)(L:Rn)(h:Heap):((WN H0 L h).map (·.1)).Nodup:=List.nodup_range.sublist Xck
theorem XhH{d:Rn}{o o':Obj}:∀{l:List (Rn×Obj)},(l.map (·.1)).Nodup->(d,o)∈l->Upd d o o' l (l.map λp=>if p.1=d then (d,o') else p):=by
 intro ux
 induction ux with
 |cons p r ih=>
  intro hn hm
  have hx:=List.nodup_cons.mp hn
  by_cases hp:p.1=d
  ·have hpo:p=(d,o):=by
    rcases Qe hm with e |e
    ·exact e.symm
    ·exact absurd (Qc ⟨_,e,hp.symm⟩) hx.1
   have hr:∀q∈r,q.1≠d:=λq hq e=>hx.1 (Qc ⟨q,hq,e.trans hp.symm⟩)
   have e:r.map (λp=>if p.1=d then (d,o') else p)=r:=by
    conv=>rhs;rw[←List.map_id r]
    exact List.map_congr_left λq hq=>if_neg (hr q hq)
   rw[QJ,e,if_pos hp,hpo]
   exact .head hr
  ·rw[QJ,if_neg hp]
   refine .tail hp (ih hx.2 ?_)
   rcases Qe hm with e |e
   ·exact absurd (congrArg (·.1) e).symm hp
   ·exact e
 |nil=>
  intro v0 v1
  contradiction
abbrev Xb8(H0:Heap)(L:Rn)(h:Heap)(d:Rn)(o':Obj):List (Rn×Obj):=(WN H0 L h).map λp=>if p.1=d then (d,o') else p
theorem U5{H0:Heap}{L:Rn}{h:Heap}{d:Rn}{o o':Obj}(e:h.get? d=some o)(hL:d≠L)(h0:H0.get? d=none):Upd d o o' (WN H0 L h) (Xb8 H0 L h d o'):=
 XhH (Oc _ _ _) (Y1.mpr ⟨e,hL,h0⟩)
section
variable {H0:Heap}{L:Rn}{h h':Heap}{m m':Str->Option Rm}
theorem Km(F:Fr H0 L h m)(F':Fr H0 L h' m')(N:News H0 L h' (WN H0 L h))(b:Rn)(o:Obj)(e:h.get? b=some o)(hL:b≠L):h'.get? b=some o:=by
 induction q:H0.get? b with
 |some o1=>rw[F.keep b o1 q] at e;rw[F'.keep b o1 q];exact e
 |none=>exact (N _ (Y1.mpr ⟨e,hL,q⟩)).1
theorem M1{x:List (Rn×Obj)}(F:Fr H0 L h m)(F':Fr H0 L h' m')(N:News H0 L h' (x++WN H0 L h))(b:Rn)(o:Obj)(e:h.get? b=some o)(hL:b≠L):h'.get? b=some o:=
 Km F F' (λp hp=>N p (Qk _ hp)) b o e hL
theorem Xbs{d:Rn}{o':Obj}(F:Fr H0 L h m)(F':Fr H0 L h' m')(N:News H0 L h' (Xb8 H0 L h d o'))(b:Rn)(o:Obj)(e:h.get? b=some o)(hL:b≠L)(hd:b≠d):h'.get? b=some o:=by
 induction q:H0.get? b with
 |some o1=>rw[F.keep b o1 q] at e;rw[F'.keep b o1 q];exact e
 |none=>exact (N (b,o) (Qc ⟨_,Y1.mpr ⟨e,hL,q⟩,if_neg hd⟩)).1
theorem XgE{d:Rn}{o o':Obj}(N:News H0 L h' (Xb8 H0 L h d o'))(e:h.get? d=some o)(hL:d≠L)(h0:H0.get? d=none):h'.get? d=some o':=
 (N (d,o') (Qc ⟨_,Y1.mpr ⟨e,hL,h0⟩,if_pos rfl⟩)).1
end
theorem Wu:∀{n:Nat}{l:List Nat},l.Nodup->(∀x∈l,x < n)->l.length<=n:=by
 intro ux
 induction ux with
 |zero=>
  intro l _ h
  induction l with
  |nil=>exact QS _
  |cons x r=>exact absurd (h x (Ql)) (Nat.not_lt_zero _)
 |succ n ih=>
  intro l hn h
  have h1:(l.erase n).length<=n:=ih (hn.erase n) λx hx=>by
   have:=h x (List.mem_of_mem_erase hx)
   have:x≠n:=λe=>(List.Nodup.mem_erase_iff hn).mp hx |>.1 e
   lia
  have h2:l.length<=(l.erase n).length + 1:=by
   rw[List.length_erase]
   split<;>lia
  lia
def tv(ρ:Nat->Int):List (Nat×Int)->Int
 | []=>0
 |(i,k)::r=>k * ρ i + tv ρ r
def LI.val(ρ:Nat->Int)(a:LI):Int:=a.c + tv ρ a.t
def Ih:List Str:=SM.map QW
def Zc:List Str:=NM.map QW
inductive VR(ρ:Nat->Int)(Ro:List Rn):V->Rm->Prop
 |none:VR ρ Ro .none .none
 |bool (b):VR ρ Ro (.bool b) (.bool b)
 |int (i z t):i.val ρ=z->VR ρ Ro (.int i) (.int z t)
 |str (k x t):Ih[k]?=some x->VR ρ Ro (.str k) (.str x t)
 |bytes (b t):(b.all λn=>Nat.ble n 255)=true->VR ρ Ro (.bytes b) (.bytes (b.map Nat.toUInt8).toArray t)
 |ref (i a):Ro[i]?=some a->VR ρ Ro (.ref i) (.ref a)
 |fn (a):VR ρ Ro (.fn a) (.ref a)
 |cls (a):VR ρ Ro (.cls a) (.ref a)
 |cond (a b):decide (0<=a.val ρ)=b->VR ρ Ro (.cond a) (.bool b)
theorem Yb{α:Type}{l l':List α}(p:l <+:l'){i:Nat}{a:α}(e:l[i]?=some a):l'[i]?=some a:=by
 obtain ⟨r,rfl⟩:=p
 rw[List.getElem?_append_left (Qa e).1];exact e
theorem VR.mono{ρ:Nat->Int}{Ro Rr:List Rn}{v:V}{x:Rm}(h:VR ρ Ro v x)(p:Ro <+:Rr):VR ρ Rr v x:=by
 induction h with
 |none=>exact .none
 |bool b=>exact .bool b
 |int i z t e=>exact .int i z t e
 |str k x t e=>exact .str k x t e
 |bytes b t e=>exact .bytes b t e
 |ref i a e=>exact .ref i a (Yb p e)
 |fn a=>exact .fn a
 |cls a=>exact .cls a
 |cond a b e=>exact .cond a b e
inductive YH(ρ:Nat->Int)(Ro:List Rn):List V->List Rm->Prop
 |nil:YH ρ Ro [] []
 |cons {v x vs xs}:VR ρ Ro v x->YH ρ Ro vs xs->YH ρ Ro (v::vs) (x::xs)
theorem YH.mono{ρ:Nat->Int}{Ro Rr:List Rn}{v:List V}{x:List Rm}(h:YH ρ Ro v x)(p:Ro <+:Rr):YH ρ Rr v x:=by
 induction h with
 |nil=>exact .nil
 |cons h _ ih=>exact .cons (h.mono p) ih
section
variable {ρ:Nat->Int}{Ro:List Rn}{y:Rm}
theorem VR.intI{i:LI}(r:VR ρ Ro (.int i) y):∃z t,y= .int z t/\i.val ρ=z:=by cases r;exact ⟨_,_,rfl,by assumption⟩
theorem VR.strI{k:Nat}(r:VR ρ Ro (.str k) y):∃x t,y= .str x t/\Ih[k]?=some x:=by cases r;exact ⟨_,_,rfl,by assumption⟩
theorem VR.bytesI{b:List Nat}(r:VR ρ Ro (.bytes b) y):∃t,y= .bytes (b.map Nat.toUInt8).toArray t/\(b.all λn=>Nat.ble n 255)=true:=by cases r;exact ⟨_,rfl,by assumption⟩
theorem VR.refI{i:Nat}(r:VR ρ Ro (.ref i) y):∃a,y= .ref a/\Ro[i]?=some a:=by cases r;exact ⟨_,rfl,by assumption⟩
theorem YH.consI{v:V}{l:List V}{ys:List Rm}(r:YH ρ Ro (v::l) ys):∃x xs,ys=x::xs/\VR ρ Ro v x/\YH ρ Ro l xs:=by cases r;exact ⟨_,_,rfl,by assumption,by assumption⟩
theorem YH.nilI{ys:List Rm}(r:YH ρ Ro [] ys):ys=[]:=by cases r;rfl
@[elab_as_elim] theorem VR.intE{i:LI}{m:Rm->Prop}(r:VR ρ Ro (.int i) y)(f:∀t,m (.int (i.val ρ) t)):m y:=by obtain ⟨_,t,rfl,rfl⟩:=r.intI;exact f t
@[elab_as_elim] theorem VR.refE{i:Nat}{m:Rm->Prop}(r:VR ρ Ro (.ref i) y)(f:∀a,Ro[i]?=some a->m (.ref a)):m y:=by obtain ⟨a,rfl,h⟩:=r.refI;exact f a h
@[elab_as_elim] theorem YH.consE{v:V}{l:List V}{ys:List Rm}{m:List Rm->Prop}(r:YH ρ Ro (v::l) ys)(f:∀x xs,VR ρ Ro v x->YH ρ Ro l xs->m (x::xs)):m ys:=by obtain ⟨x,xs,rfl,h1,h2⟩:=r.consI;exact f x xs h1 h2
@[elab_as_elim] theorem YH.nilE{ys:List Rm}{m:List Rm->Prop}(r:YH ρ Ro [] ys)(f:m []):m ys:=by obtain rfl:=r.nilI;exact f
@[elab_as_elim] theorem VR.fnE{i:Nat}{m:Rm->Prop}(r:VR ρ Ro (.fn i) y)(f:m (.ref i)):m y:=by cases r;exact f
@[elab_as_elim] theorem VR.clsE{i:Nat}{m:Rm->Prop}(r:VR ρ Ro (.cls i) y)(f:m (.ref i)):m y:=by cases r;exact f
@[elab_as_elim] theorem VR.noneE{m:Rm->Prop}(r:VR ρ Ro .none y)(f:m .none):m y:=by cases r;exact f
@[elab_as_elim] theorem VR.boolE{b:Bool}{m:Rm->Prop}(r:VR ρ Ro (.bool b) y)(f:m (.bool b)):m y:=by cases r;exact f
@[elab_as_elim] theorem VR.intF{i:LI}{m:Rm->Prop}(r:VR ρ Ro (.int i) y)(f:∀z t,i.val ρ=z->m (.int z t)):m y:=by obtain ⟨z,t,rfl,h⟩:=r.intI;exact f z t h
@[elab_as_elim] theorem VR.strE{i:Nat}{m:Rm->Prop}(r:VR ρ Ro (.str i) y)(f:∀x t,Ih[i]?=some x->m (.str x t)):m y:=by obtain ⟨x,t,rfl,h⟩:=r.strI;exact f x t h
@[elab_as_elim] theorem YH.int1E{i:LI}{l:List V}{ys:List Rm}{m:List Rm->Prop}(r:YH ρ Ro (.int i::l) ys)(f:∀z t ws,i.val ρ=z->YH ρ Ro l ws->m (.int z t::ws)):m ys:=r.consE λ_ _ r1 r=>r1.intF λz t h=>f z t _ h r
@[elab_as_elim] theorem O8{u:V}{x:LI}{m:Rm->Prop}(h:Zl u=some x)(r:VR ρ Ro u y)(f:∀z t,x.val ρ=z->m (.int z t)):m y:=by
 induction u<;>first |exact Xx h |skip
 obtain rfl:=QV h;exact r.intF f
theorem YH.ints2{i j:LI}{ys:List Rm}(r:YH ρ Ro [.int i,.int j] ys):∃t u,ys=[.int (i.val ρ) t,.int (j.val ρ) u]:=r.consE λ_ _ r1 r=>r.consE λ_ _ r2 r=>r.nilE (r1.intE λt=>r2.intE λu=>⟨t,u,rfl⟩)
end
inductive Gz(ρ:Nat->Int)(Ro:List Rn):List (Nat×V)->List DictEntry->Prop
 |nil:Gz ρ Ro [] []
 |cons {n v l x t hs y es}:Zc[n]?=some x->VR ρ Ro v y->Gz ρ Ro l es->Gz ρ Ro ((n,v)::l) (⟨hs,.str x t,y⟩::es)
theorem Gz.mono{ρ:Nat->Int}{Ro Rr:List Rn}{v:List (Nat×V)}{x:List DictEntry}(h:Gz ρ Ro v x)(p:Ro <+:Rr):Gz ρ Rr v x:=by
 induction h with
 |nil=>exact .nil
 |cons e h _ ih=>exact .cons e (h.mono p) ih
abbrev Yp(c:String)(vs:List Rm)(n:Nat):Obj:={cls:= .type c,data:= .seq vs.toArray n}
inductive DB(ρ:Nat->Int)(Ro:List Rn):List (Int×V)->List (Int×Rm)->Prop
 |nil:DB ρ Ro [] []
 |cons {k v l y es}:VR ρ Ro v y->DB ρ Ro l es->DB ρ Ro ((k,v)::l) ((k,y)::es)
theorem DB.mono{ρ:Nat->Int}{Ro Rr:List Rn}{v:List (Int×V)}{x:List (Int×Rm)}(h:DB ρ Ro v x)(p:Ro <+:Rr):DB ρ Rr v x:=by
 induction h with
 |nil=>exact .nil
 |cons h _ ih=>exact .cons (h.mono p) ih
noncomputable def YA(p q top:Int):Int×Int×Int:=if 0 < p then (p % top,p / top,q) else
 let q':=(q * 39373 + 7) % 2147483647
 ((q' * q') % 2147483629 / 32 % top,p,q')
def Jw(ρ:Nat->Int):Int->Int->List (Int×LI)->Prop
 |_,_,[]=>True
 |p,q,(top,d)::r=>0 < top/\top<=1000/\d.val ρ=(YA p q top).1/\Jw ρ (YA p q top).2.1 (YA p q top).2.2 r
def JR(ρ:Nat->Int)(Ro:List Rn)(h:Heap)(a:Rn):O->Prop
 | .inst c d=>∃dx,Ro[d]?=some dx/\h.get? a=some (instObj c dx)
 | .flds c l=>∃es n,h.get? a=some (dictOf es n)/\Gz ρ Ro l es/\(l.map (·.1)).Nodup/\∃cl,Xr.get c=some cl/\∀p∈l,WX cl.mask p.1=true
 | .list l=>∃vs n,h.get? a=some (Yp "list" vs n)/\YH ρ Ro l vs
 | .tup l=>∃vs n,h.get? a=some (Yp "tuple" vs n)/\YH ρ Ro l vs
 | .idict l=>(a == sysModules)=false/\∃o kvs,h.get? a=some o/\(∀p w,o.IsDictOf (PySem.intKind p w) kvs)/\DB ρ Ro l kvs
 | .barr=>h.get? a=some {cls:= .type "bytearray",data:= .bytearray #[] 0}
 | .src l=>∃p q t u n,h.get? a=some (Yp "list" [.int p t,.int q u] n)/\0<=p/\0<=q/\q < 2147483647/\Jw ρ p q l
 | .wheel _ _ _=>False
def J4:List Int->List Nat->Nat->List V
 |k::ks,r::rs,p=>bc (Nat.beq r p) (.int (Xn k)::J4 ks rs p) (J4 ks rs p)
 |_,_,_=>[]
def I9(j:Nat):List Int->List (Int×V)
 | []=>[]
 |k::ks=>(k,.ref j)::I9 (j + 1) ks
noncomputable def UT(j:Nat):List Int->List O
 | []=>[]
 |_::ks=> .tup [.int ⟨0,[(2 * j,1)]⟩,.int ⟨0,[(2 * j + 1,1)]⟩]::UT (j + 1) ks
def J2(j:Nat):Nat->List V
 | 0=>[]
 |n + 1=> .ref j::J2 (j + 1) n
def Z5(ks:List Int)(rs:List Nat)(j:Nat):Nat->List O
 | 0=>[]
 |n + 1=> .list (J4 ks rs j)::Z5 ks rs (j + 1) n
def mkW(ks:List Int)(rs:List Nat)(hasR:Bool):List O:=
 .flds 842 [(27,.int (Xn 16)),(107,.ref 2),(106,.ref 3),(105,.ref 4),(104,bc hasR (.int ⟨0,[(100,1)]⟩) .none),(103,.int ⟨0,[(101,1)]⟩)]::
 .inst 842 0:: .list (J2 5 16):: .list []:: .idict (I9 21 ks)::(Z5 ks rs 0 16++UT 0 ks)
structure XrG(ρ ρw:Nat->Int)(es:List (Int×LI×Int))(r:Option LI)(g:Int)(rs:List Nat):Prop where
 ent:∀(j:Nat)(k:Int)(t:LI)(o:Int),es[j]?=some (k,t,o)->ρw (2 * j)=t.val ρ/\ρw (2 * j + 1)=o
 res:rs.length=es.length/\∀(j:Nat)(k:Int)(t:LI)(o:Int)(p:Nat),es[j]?=some (k,t,o)->rs[j]?=some p->p < 16/\t.val ρ % 16=(p:Int)
 reached:∀t:LI,r=some t->ρw 100=t.val ρ
 given:ρw 101=g
def WR(ρ:Nat->Int)(Rq:Rn->Option Nat)(h:Heap)(i:Nat)(a:Rn)(es:List (Int×LI×Int))(r:Option LI)(g:Int):Prop:=
 ∃(ρw:Nat->Int)(adw:List Rn)(rs:List Nat),XrG ρ ρw es r g rs/\adw.length=21 + es.length/\adw.Nodup/\(∀b∈adw,Rq b=some i)/\adw[1]?=some a/\
  ∀(j:Nat)(o:O),(mkW (es.map (·.1)) rs r.isSome)[j]?=some o->∃b,adw[j]?=some b/\JR ρw adw h b o
def OR(ρ:Nat->Int)(Ro:List Rn)(Rq:Rn->Option Nat)(h:Heap)(i:Nat)(a:Rn):O->Prop
 | .wheel es r g=>WR ρ Rq h i a es r g
 |o=>JR ρ Ro h a o
theorem JR.mono{ρ:Nat->Int}{Ro Rr:List Rn}{h h':Heap}{a:Rn}{o:O}(x:JR ρ Ro h a o)(p:Ro <+:Rr)(hk:∀o,h.get? a=some o->h'.get? a=some o):JR ρ Rr h' a o:=by
 induction o with
 |inst c d=>refine YB x λdx e1 e2=>?_;exact ⟨dx,Yb p e1,hk _ e2⟩
 |flds c l=>refine UB x λes n e1 e2 e3=>?_;exact ⟨es,n,hk _ e1,e2.mono p,e3⟩
 |list l=>refine Y5 x λes n e1 e2=>?_;exact ⟨es,n,hk _ e1,e2.mono p⟩
 |tup l=>refine Y5 x λes n e1 e2=>?_;exact ⟨es,n,hk _ e1,e2.mono p⟩
 |idict l=>refine Iv x λhs zz1=>?_;refine UB zz1 λo kvs e1 e2 e3=>?_;exact ⟨hs,o,kvs,hk _ e1,e2,e3.mono p⟩
 |barr=>exact hk _ x
 |src l=>refine x52 x λp' q t u n e1 e2=>?_;exact ⟨p',q,t,u,n,hk _ e1,e2⟩
 |wheel es r g=>exact x
theorem JR.or{ρ:Nat->Int}{Ro:List Rn}{Rq:Rn->Option Nat}{h:Heap}{i:Nat}{a:Rn}{o:O}(x:JR ρ Ro h a o):OR ρ Ro Rq h i a o:=by
 induction o<;>first |exact x |exact False.elim x
theorem JR.live{ρ:Nat->Int}{Ro:List Rn}{h:Heap}{a:Rn}{o:O}(x:JR ρ Ro h a o):∃y,h.get? a=some y:=by
 induction o with
 |inst c d=>refine YB x λ_ _ e=>?_;exact ⟨_,e⟩
 |flds c l=>refine Y5 x λ_ _ e _=>?_;exact ⟨_,e⟩
 |list l=>refine Y5 x λ_ _ e _=>?_;exact ⟨_,e⟩
 |tup l=>refine Y5 x λ_ _ e _=>?_;exact ⟨_,e⟩
 |idict l=>refine Iv x λ_ zz2=>?_;refine Y5 zz2 λ_ _ e _=>?_;exact ⟨_,e⟩
 |barr=>exact ⟨_,x⟩
 |src l=>refine x52 x λ_ _ _ _ _ e _=>?_;exact ⟨_,e⟩
 |wheel es r g=>exact False.elim x
theorem Nc:∀(ks:List Int)(j:Nat),(UT j ks).length=ks.length
 | [],_=>rfl
 |_::r,j=>congrArg (· + 1) (Nc r (j + 1))
theorem XN(ks:List Int)(rs:List Nat):∀(n j:Nat),(Z5 ks rs j n).length=n
 | 0,_=>rfl
 |n + 1,j=>congrArg (· + 1) (XN ks rs n (j + 1))
theorem Oa(ks:List Int)(rs:List Nat)(b:Bool):(mkW ks rs b).length=21 + ks.length:=by
 unfold mkW
 simp only [Qp,Qw,XN,Nc]
 lia
theorem WR.all{ρ:Nat->Int}{Rq:Rn->Option Nat}{h:Heap}{i:Nat}{a:Rn}{es:List (Int×LI×Int)}{r:Option LI}{g:Int}(x:WR ρ Rq h i a es r g):Rq a=some i/\∃y,h.get? a=some y:=by
 refine x36 x λρw adw rs l h1 h2 h3 h4 h5=>?_
 refine ⟨h3 a (QN h4),?_⟩
 refine YB (h5 1 _ rfl) λb e1 e2=>?_
 rw[h4] at e1
 obtain rfl:=QV e1
 exact e2.live
theorem OR.mono{ρ:Nat->Int}{Ro Rr:List Rn}{Rq Rt:Rn->Option Nat}{h h':Heap}{i:Nat}{a:Rn}{o:O}(x:OR ρ Ro Rq h i a o)(ha:Rq a=some i)
  (p:Ro <+:Rr)(hk:∀b o,Rq b=some i->h.get? b=some o->h'.get? b=some o)(ho:∀b,(h.get? b).isSome=true->Rt b=Rq b):OR ρ Rr Rt h' i a o:=by
 induction o with
 |wheel es r g=>
  refine x36 x λρw adw rs l h1 h2 h3 h4 h5=>?_
  refine ⟨ρw,adw,rs,l,h1,h2,λb hb=>?_,h4,λj o e=>?_⟩
  ·refine x11 (List.mem_iff_getElem.mp hb) λj zz3=>?_;obtain ⟨hj,rfl⟩:=zz3
   have hlen:j < (mkW (es.map (·.1)) rs r.isSome).length:=by rw[Oa,Qs];lia
   refine YB (h5 j _ (Qq hlen)) λb e1 e2=>?_
   rw[Qq hj] at e1
   obtain rfl:=QV e1
   obtain ⟨y,hy⟩:=e2.live
   exact (ho _ (by rw[hy];rfl)).trans (h3 _ hb)
  ·refine YB (h5 j o e) λb e1 e2=>?_
   exact ⟨b,e1,e2.mono Qy λo ho=>hk b o (h3 b (QN e1)) ho⟩
 |inst c d=>exact JR.mono (ρ:=ρ) (o:= .inst c d) x p λo e=>hk _ o ha e
 |flds c l=>exact JR.mono (ρ:=ρ) (o:= .flds c l) x p λo e=>hk _ o ha e
 |list l=>exact JR.mono (ρ:=ρ) (o:= .list l) x p λo e=>hk _ o ha e
 |tup l=>exact JR.mono (ρ:=ρ) (o:= .tup l) x p λo e=>hk _ o ha e
 |idict l=>exact JR.mono (ρ:=ρ) (o:= .idict l) x p λo e=>hk _ o ha e
 |barr=>exact JR.mono (ρ:=ρ) (o:= .barr) x p λo e=>hk _ o ha e
 |src l=>exact JR.mono (ρ:=ρ) (o:= .src l) x p λo e=>hk _ o ha e
structure Cx where
 prog:Program
 w:World
 H0:Heap
 K:Frag
 mg:Str->Option Rm
 mb:Str->Option Rm
 p:Program
 loose:List Str
 ρ:Nat->Int
 cells:List (Rn×Obj):=[]
 cellv:List (Str×Rm):=[]
variable{a L d I:Rn}{Rq Rv Rt own0:Rn->Option Nat}{params:Arguments}{A:Around}{cal:Je}{X:Mj}{C:Cx}{env:Env}{e value target iter:Expr}{c:Expr->Option M}{F:XA}{fc:X7}{fd:FuncData}{h h' H0 h0:Heap}{Nv top:Int}{k:Tactic.K}{z T gv:LI}{srcZ:List (Int×LI)}{kvs:List (Int×Rm)}{xs:List (List Str×Rn×Rm)}{fs:List (Nat×V)}{ks:List (Option Expr)}{cl:List (Str×Rn)}{Ro Rr Ru ads0:List Rn}{r es args:List Expr}{kl dk:List Int}{fv ns rs:List Nat}{body:List Stmt}{cn:List Str}{Pn:List String}{us its:List V}{vs first dv:List Rm}{l l' lc:YG}{x y:M}{n i j q f N kk line cd sa:Nat}{ρ:Nat->Int}{res:Nat->Nat}{o o':O}{op:Operator}{G:Oz}{an od:Option Rn}{out:Zk}{P:Rj}{pos p apos tpos p2 p1:Pos}{R:Result->Rk->Prop}{scope sc:Scope}{pl:Sem Bool}{whole w:Sem Rm}{s s0:Rk}{σ' σ σ1 σ2:St}{nm name x1 x2 qual:Str}{m:Str->Option Rm}{t:Tok}{α β γ δ:Type}{v u rd:V}{ct dV kV doc pm cdv:Rm}{Q E:Rm->Rk->Prop}
structure Xce(K:Frag)(c:Nat)(cl:Ig):Prop where
 get:plainGet K c Str.empty=true
 hasD:hasDictIn K c=true
 setA:findIn K (.ref c) "__setattr__"=some (some (.builtin "object.__setattr__"))
 over:plainOver K c=true
 makes:makesIn K c=true
 keep:keepIn K (.ref c)=true
 init:findIn K (.ref c) "__init__"=some (some (.ref cl.init))
 initF:typeIn K (.ref cl.init)=some (.type "function")
 fld:∀n x,WX cl.mask n=true->Zc[n]?=some x->∃attr,findIn K (.ref c) x=some attr/\noGet K attr=true/\takerIn K c x=some none
 meth:∀n a,Xh cl.meths n=some a->∃x,Zc[n]?=some x/\findIn K (.ref c) x=some (some (.ref a))/\isFn K (.ref a)=true/\keepIn K (.ref a)=true
 prop:∀n a,Xh cl.props n=some a->∃x p rest,Zc[n]?=some x/\findIn K (.ref c) x=some (some (.ref p))/\specialIn K (.ref p) "__get__"=some (some (.builtin "property.__get__"))/\takesIn K (.ref p)=some true/\recIn K p "property"=some (.ref a::rest)
structure Cx.Ok(C:Cx):Prop where
 inK:C.K.In C.H0
 top:TopRead C.p C.loose C.mg C.mb C.H0
 cls:∀c cl,Xr.get c=some cl->Xce C.K c cl
def YK(A:Around)(n:Nat):Prop:=A.handled=none/\A.depth + 3 * n<=990/\A.units + 12 * n<=9000/\A.guards=some []
def X5(A:Around)(n:Nat):Prop:=A.handled=none/\A.depth + 3 * n<=992/\A.units + 12 * n<=9006/\A.guards=some []
theorem YK.in1(g:YK A n):X5 A.in1 n:=⟨g.1,by show A.depth + _<=_;have:=g.2.1;lia,by show A.units + 1 + _<=_;have:=g.2.2.1;lia,g.2.2.2⟩
theorem YK.cc(g:YK A n):X5 A n:=⟨g.1,by have:=g.2.1;lia,by have:=g.2.2.1;lia,g.2.2.2⟩
theorem X5.deeper{e:Env}(g:X5 A (n + 1)):YK (A.deeper e) n:=⟨g.1,by show A.depth + 1 + _<=_;have:=g.2.1;lia,by show A.units + 3 + _<=_;have:=g.2.2.1;lia,g.2.2.2⟩
theorem YK.units(g:YK A n):A.units < cLine:=by show A.units < 9900;have:=g.2.2.1;lia
structure Rp(C:Cx)(Ro:List Rn)(Rq:Rn->Option Nat)(σ:St)(h:Heap):Prop where
 len:Ro.length=σ.n
 old:∀b o,C.H0.get? b=some o->Rq b=none
 keep:∀b o,C.H0.get? b=some o->h.get? b=some o
 big:C.H0.objs.size<=h.objs.size
 obj:∀i o,σ.h.get i=some o->∃a,Ro[i]?=some a/\Rq a=some i/\OR C.ρ Ro Rq h i a o
structure XJ(X:Rn->Prop)(Ro:List Rn)(Rq:Rn->Option Nat)(h:Heap)(Rr:List Rn)(Rt:Rn->Option Nat)(h':Heap):Prop where
 pre:Ro <+:Rr
 same:∀b o,h.get? b=some o->Rt b=Rq b
 keep:∀b o,h.get? b=some o->Rq b=none->¬X b->h'.get? b=some o
 live:∀b o,h.get? b=some o->∃o',h'.get? b=some o'
theorem XJ.refl{X:Rn->Prop}:XJ X Ro Rq h Ro Rq h:=⟨Qy,λ_ _ _=>rfl,λ_ _ e _ _=>e,λ_ o e=>⟨o,e⟩⟩
theorem XJ.trans{X:Rn->Prop}{a a1 a2:List Rn}{RA:Rn->Option Nat}{h1 h2:Heap}(x:XJ X a Rq h a1 Rv h1)(y:XJ X a1 Rv h1 a2 RA h2):XJ X a Rq h a2 RA h2 where
 pre:=x.pre.trans y.pre
 same b o e:=by obtain ⟨o1,e1⟩:=x.live b o e;exact (y.same b o1 e1).trans (x.same b o e)
 keep b o e hn hx:=y.keep b o (x.keep b o e hn hx) ((x.same b o e).trans hn) hx
 live b o e:=by obtain ⟨o1,e1⟩:=x.live b o e;exact y.live b o1 e1
theorem XJ.weak{X Y:Rn->Prop}{a a1:List Rn}{h1:Heap}(x:XJ X a Rq h a1 Rv h1)(hxy:∀b,X b->Y b):XJ Y a Rq h a1 Rv h1:=
 ⟨x.pre,x.same,λb o e hn hy=>x.keep b o e hn λhx=>hy (hxy b hx),x.live⟩
def XgM(x:Str):Nat:=x.cps.foldl (λz c=>2048 * z + c + 1) 0
theorem YN(f:α->β):∀{l:List α},(l.map f).Nodup->l.Nodup:=by
 intro ux
 induction ux with
 |nil=>
  intro _
  exact QP
 |cons a l ih=>
  intro h
  have hx:=List.nodup_cons.mp h
  exact List.nodup_cons.mpr ⟨λhm=>hx.1 (Qc ⟨a,hm,rfl⟩),ih hx.2⟩
theorem XaP:Zc.Nodup:=YN XgM (by decide +kernel)
theorem Ix{x:Str}(h1:Zc[i]?=some x)(h2:Zc[j]?=some x):i=j:=by
 obtain ⟨a,e1⟩:=Qa h1
 obtain ⟨b,e2⟩:=Qa h2
 exact (List.getElem_inj XaP).mp (e1.trans e2.symm)
theorem Yl{a b:Nat}(h:a≠b):Nat.beq a b=false:=by
 induction e:Nat.beq a b with
 |false=>rfl
 |true=>exact absurd (Qi e) h
def IP(C:Cx)(m:Str->Option Rm)(x:Str)(y:Rm):Prop:=match C.cellv.lookup x with
 |some z=>z=y
 |none=>m x=some y
theorem IP.here{x:Str}{y:Rm}(h:IP C m x y)(hc:C.cellv.lookup x=none):m x=some y:=by
 unfold IP at h;rw[hc] at h;exact h
def LR(C:Cx)(Ro:List Rn)(l:YG)(m:Str->Option Rm):Prop:=∀n v,Xh l n=some v->∃x y,Zc[n]?=some x/\IP C m x y/\VR C.ρ Ro v y
theorem LR.mono(x:LR C Ro l m)(p:Ro <+:Rr):LR C Rr l m:=λn v e=>by
 refine UB (x n v e) λa b e1 e2 e3=>?_
 exact ⟨a,b,e1,e2,e3.mono p⟩
theorem Zh{l:List (Nat×α)}{k:Nat}{v:α}:Xh (XM l n v) k=if n=k then some v else Xh l k:=by
 induction l with
 |nil=>
  show bc (Nat.beq n k) (some v) none=_
  by_cases h:n=k
  ·subst h;rw[if_pos rfl,QI]
  ·rw[if_neg h,Yl h];rfl
 |cons p r ih=>
  show Xh (bc (Nat.beq p.1 n) ((p.1,v)::r) (p::XM r n v)) k=if n=k then some v else bc (Nat.beq p.1 k) (some p.2) (Xh r k)
  by_cases h:p.1=n
  ·subst h
   rw[QI]
   show bc (Nat.beq p.1 k) (some v) (Xh r k)=_
   by_cases h':p.1=k
   ·subst h';rw[if_pos rfl,QI]
   ·rw[if_neg h',Yl h']
  ·rw[Yl h]
   show bc (Nat.beq p.1 k) (some p.2) (Xh (XM r n v) k)=_
   rw[ih]
   by_cases h':n=k
   ·subst h'
    rw[Yl h]
   ·rw[if_neg h',if_neg h']
set_option tactic.hygienic true in
theorem LR.set{x:Str}{y:Rm}(r:LR C Ro l m)(hx:Zc[n]?=some x)(hc:C.cellv.lookup x=none)(hv:VR C.ρ Ro v y):
  LR C Ro (XM l n v) (λz=>if z=x then some y else m z):=λk u e=>by
 rw[Zh] at e
 by_cases h:n=k
 ·subst h
  rw[if_pos rfl] at e
  obtain rfl:=QV e
  exact ⟨x,y,hx,by unfold IP;rw[hc];exact if_pos rfl,hv⟩
 ·rw[if_neg h] at e
  refine UB (r k u e) λa b e1 e2 e3=>?_
  refine ⟨a,b,e1,?_,e3⟩
  unfold IP at e2 ⊢
  split
  ·rename_i z hz;rw[hz] at e2;exact e2
  ·rename_i hz
   rw[hz] at e2
   show (if a=x then some y else m a)=some b
   rw[if_neg]
   ·exact e2
   ·rintro rfl
    exact h (Ix hx e1)
def Cel(C:Cx)(L:Rn)(Rq:Rn->Option Nat)(h:Heap):Prop:=∀p∈C.cells,Rq p.1=none/\h.get? p.1=some p.2/\p.1≠L
theorem Cel.gone(x:Cel C L Rq h)(G:XJ (·=L) Ro Rq h Rr Rt h'):Cel C L Rt h':=λp hp=>by
 refine YF (x p hp) λh1 h2 h3=>?_
 exact ⟨(G.same _ _ h2).trans h1,G.keep _ _ h2 h1 h3,h3⟩
structure At(C:Cx)(L:Rn)(Ro:List Rn)(Rq:Rn->Option Nat)(σ:St)(l:YG)(h:Heap)(m:Str->Option Rm):Prop where
 rp:Rp C Ro Rq σ h
 fr:Fr C.H0 L h m
 ownL:Rq L=none
 lr:LR C Ro l m
 cel:Cel C L Rq h
theorem At.okK(O:C.Ok){L Ro Rq σ l h m}(T:At C L Ro Rq σ l h m):C.K.In h:=O.inK.keeps T.fr.keep
def PE(C:Cx)(L:Rn)(Ro:List Rn)(Rq:Rn->Option Nat)(h:Heap)(σ':St)(l:YG)(v:V)(Q:Rm->Rk->Prop)(s:Rk):Prop:=
 ∀h' n Rr Rt m' val,XJ (·=L) Ro Rq h Rr Rt h'->At C L Rr Rt σ' l h' m'->VR C.ρ Rr v val->Q val {s with heap:=h',toks:=n}
def PL(C:Cx)(L:Rn)(Ro:List Rn)(Rq:Rn->Option Nat)(h:Heap)(σ':St)(l:YG)(v:List V)(Q:List Rm->Rk->Prop)(s:Rk):Prop:=
 ∀h' n Rr Rt m' val,XJ (·=L) Ro Rq h Rr Rt h'->At C L Rr Rt σ' l h' m'->YH C.ρ Rr v val->Q val {s with heap:=h',toks:=n}
def PB(C:Cx)(L:Rn)(Ro:List Rn)(Rq:Rn->Option Nat)(h:Heap)(σ':St)(l:YG)(b:Bool)(Q:Bool->Rk->Prop)(s:Rk):Prop:=
 ∀h' n Rr Rt m',XJ (·=L) Ro Rq h Rr Rt h'->At C L Rr Rt σ' l h' m'->Q b {s with heap:=h',toks:=n}
def SE(C:Cx)(n:Nat)(L:Rn)(k:K)(x:M)(t:Sem Rm):Prop:=
 ∀A,YK A n->∀Ro Rq σ l s m v σ',At C L Ro Rq σ l s.heap m->x k l σ= .ok v σ'->∀Q E,PE C L Ro Rq s.heap σ' l v Q s->wpAny (model C.prog C.w) A t Q E s
def SL(C:Cx)(n:Nat)(L:Rn)(k:K)(x:ML)(t:Sem (List Rm)):Prop:=
 ∀A,YK A n->∀Ro Rq σ l s m v σ',At C L Ro Rq σ l s.heap m->x k l σ= .ok v σ'->∀Q E,PL C L Ro Rq s.heap σ' l v Q s->wpAny (model C.prog C.w) A t Q E s
def SB(C:Cx)(n:Nat)(L:Rn)(k:K)(x:MB)(t:Sem Bool):Prop:=
 ∀A,YK A n->∀Ro Rq σ l s m v σ',At C L Ro Rq σ l s.heap m->x k l σ= .ok v σ'->∀Q E,PB C L Ro Rq s.heap σ' l v Q s->wpAny (model C.prog C.w) A t Q E s
def N0(C:Cx)(Ro:List Rn)(Rq:Rn->Option Nat)(s:Rk)(σ':St)(v:V)(Q:Result->Rk->Prop):Prop:=
 ∀h' k Rr Rt val,XJ (λ_=>False) Ro Rq s.heap Rr Rt h'->Rp C Rr Rt σ' h'->VR C.ρ Rr v val->Q (.ok (.ret val)) {s with heap:=h',toks:=k}
section
variable {hp:Heap}{σ' b:St}
theorem PE.eq{a:V}(e:Xu.ok a b= .ok v σ')(h:PE C L Ro Rq hp σ' l v Q s):PE C L Ro Rq hp b l a Q s:=by cases e;exact h
theorem PB.eq{v a:Bool}{Q:Bool->Rk->Prop}(e:ZI.ok a b= .ok v σ')(h:PB C L Ro Rq hp σ' l v Q s):PB C L Ro Rq hp b l a Q s:=by cases e;exact h
theorem N0.eq{a:V}{Q:Result->Rk->Prop}(e:Xu.ok a b= .ok v σ')(h:N0 C Ro Rq s σ' v Q):N0 C Ro Rq s b a Q:=by cases e;exact h
theorem N0.eqo{a:V}{Q:Result->Rk->Prop}(e:some (Xu.ok a b)=some (.ok v σ'))(h:N0 C Ro Rq s σ' v Q):N0 C Ro Rq s b a Q:=by cases e;exact h
end
def XB(C:Cx)(n:Nat)(call:Je):Prop:=
 ∀A,X5 A n->∀f args σ v σ' Ro Rq s fv vs,call f args σ= .ok v σ'->Rp C Ro Rq σ s.heap->VR C.ρ Ro f fv->YH C.ρ Ro args vs->∀R:Result->Rk->Prop,
  (N0 C Ro Rq s σ' v R)->
  codeAny (model C.prog C.w) A (.call fv ⟨vs,[]⟩) R s
theorem Xu.of_toL{x:Xu}{k:V->St->Yj}{v:List V}{s:St}(h:x.to .no k= .ok v s):∃u s1,x= .ok u s1/\k u s1= .ok v s:=by
 induction x with
 |no=>exact lno h
 |ok u s1=>exact ⟨u,s1,rfl,h⟩
theorem Yj.of_to{x:Yj}{k:List V->St->Xu}{s:St}(h:x.to .no k= .ok v s):∃u s1,x= .ok u s1/\k u s1= .ok v s:=by
 induction x with
 |no=>exact Y3 h
 |ok u s1=>exact ⟨u,s1,rfl,h⟩
theorem Yj.of_toL{x:Yj}{k:List V->St->Yj}{v:List V}{s:St}(h:x.to .no k= .ok v s):∃u s1,x= .ok u s1/\k u s1= .ok v s:=by
 induction x with
 |no=>exact lno h
 |ok u s1=>exact ⟨u,s1,rfl,h⟩
theorem ZF{o:Option α}{n y:β}{k:α->β}(h:oc o n k=y)(hn:n≠y):∃a,o=some a/\k a=y:=by
 induction o with
 |none=>exact absurd h hn
 |some a=>exact ⟨a,rfl,h⟩
structure ZC(env:Env)(L:Rn):Prop where
 loc:env.locals=L
 glob:env.globals=mainGlobals
 bi:env.builtins=builtinsNs
 kind:env.scope.kind= .function
section
variable {M:Model}{K:Frag}{h₀:Heap}{m mg mb:Str->Option Rm}{p:Program}{loose:List Str}{x:Str}{v:Rm}
theorem ldE(hE:ZC env L)(F:Fr h₀ L s.heap m)(hv:m x=some v)(h:Q v s)(hl:env.kindOf x=some .local)(hd:(x == ("__debug__":Str))=false):wpAny M A (eval (.Name x pos) env) Q E s:=
 wpAny_Name (wpAny_loadName_local hE.kind hl (by rw[hE.loc];exact F.ns) hv h) hd
theorem Gf(hE:ZC env L)(F:Fr h₀ L s.heap m)(X:K.In h₀)(T:TopRead p loose mg mb h₀)(e:nsIn K mainGlobals x=some (some v))(h:Q v s)(hx:env.kindOf x=some .globalImplicit)(hd:(x == ("__debug__":Str))=false):wpAny M A (eval (.Name x pos) env) Q E s:=
 Calls.Name_function_global hE.kind hx (Calls.loadGlobal_global (env:=env) (by rw[hE.glob];exact T.g.keeps F.keep) (mg_of X T.g e) h) hd
theorem JC(hE:ZC env L)(F:Fr h₀ L s.heap m)(X:K.In h₀)(T:TopRead p loose mg mb h₀)(e:nsIn K mainGlobals x=some none)(hv:bootBuiltins x=some v)(hn:x≠"__name__")(h:Q v s)(hx:env.kindOf x=some .globalImplicit)(hd:(x == ("__debug__":Str))=false):wpAny M A (eval (.Name x pos) env) Q E s:=
 Calls.Name_function_global hE.kind hx (Calls.loadGlobal_builtin (env:=env) (by rw[hE.glob];exact T.g.keeps F.keep) (mg_none_of X T.g e) (by rw[hE.bi];exact T.b.keeps F.keep) ((T.builtins x hn).trans hv) h) hd
theorem stE{news:List (Rn×Obj)}{Q:Unit->Rk->Prop}(hE:ZC env L)(F:Fr h₀ L s.heap m)(N:News h₀ L s.heap news)
  (h:∀h',Fr h₀ L h' (λy=>if y=x then some v else m y)->News h₀ L h' news->Q () {s with heap:=h',toks:=s.toks + 1})(hl:env.kindOf x=some .local):wpAny M A (storeName env x v) Q E s:=by
 obtain ⟨rfl,_,_,hk⟩:=hE
 exact wpAny_storeName_local hl F.ns (λh' hn hs=>h h' (F.set hn hs) (N.set hs)) (by rw[hk];rfl)
end
theorem XjP{kk pos}:SE C n L k XD (eval (.Constant .none kk pos) env):=by
 intro A g Ro Rq σ l s m v σ' T e Q E h
 cases e
 exact Constant_none (h _ _ _ _ _ _ .refl T .none)
theorem Xpw{b:Bool}{kk pos}:SE C n L k (XE b) (eval (.Constant (.bool b) kk pos) env):=by
 intro A g Ro Rq σ l s m v σ' T e Q E h
 cases e
 exact Constant_bool (h _ _ _ _ _ _ .refl T (.bool b))
theorem XvJ{i:Int}{kk pos}:SE C n L k (Xf i) (eval (.Constant (.int i) kk pos) env):=by
 intro A g Ro Rq σ l s m v σ' T e Q E h
 cases e
 exact wpAny_Constant_int (h _ _ _ _ _ _ .refl T (.int _ _ _ (Rb _)))
theorem Xlw(hE:ZC env L){x:Str}(hx:Zc[i]?=some x)(Ry:C.cellv.lookup x=none)(hl:env.kindOf x=some .local)(hd:(x == ("__debug__":Str))=false):
  SE C n L k (Xb i) (eval (.Name x pos) env):=by
 intro A g Ro Rq σ l s m v σ' T e Q E h
 have e':YS (Xh l i) σ= .ok v σ':=e
 induction q:Xh l i with
 |none=>rw[q] at e';exact Y3 e'
 |some u=>
  rw[q] at e'
  cases e'
  refine UB (T.lr i v q) λx' y e1 e2 e3=>?_
  rw[hx] at e1
  obtain rfl:=QV e1
  exact ldE hE T.fr (e2.here Ry) (h _ _ _ _ _ _ .refl T e3) hl hd
theorem KN(hE:ZC env L){y:Rm}{x:Str}(O:C.Ok)(e:nsIn C.K mainGlobals x=some (some y))(hv:∀Ro,VR C.ρ Ro u y)
  (hl:env.kindOf x=some .globalImplicit)(hd:(x == ("__debug__":Str))=false):SE C n L k (Xv u) (eval (.Name x pos) env):=by
 intro A g Ro Rq σ l s m v σ' T e' Q E h
 cases e'
 exact Gf hE T.fr O.inK O.top e (h _ _ _ _ _ _ .refl T (hv _)) hl hd
theorem PE.step{h1:Heap}{t:Nat}(x:PE C L Ro Rq h σ' l v Q s)(G:XJ (·=L) Ro Rq h Ru Rv h1):
  PE C L Ru Rv h1 σ' l v Q {s with heap:=h1,toks:=t}:=λh' n Rr Rt m' val G' T R=>x h' n Rr Rt m' val (G.trans G') T R
theorem PB.step{h1:Heap}{v:Bool}{Q:Bool->Rk->Prop}{t:Nat}(x:PB C L Ro Rq h σ' l v Q s)(G:XJ (·=L) Ro Rq h Ru Rv h1):
  PB C L Ru Rv h1 σ' l v Q {s with heap:=h1,toks:=t}:=λh' n Rr Rt m' G' T=>x h' n Rr Rt m' (G.trans G') T
theorem Xlx:SL C n L k Xe (spliced (backTo pos (starEach [] env))):=by
 intro A g Ro Rq σ l s m v σ' T e Q E h
 cases e
 exact args_nil (h _ _ _ _ _ _ .refl T .nil)
theorem XaA{y:ML}(hx:SE C n L k x (eval e env))(hy:SL C n L k y (spliced (backTo pos (starEach r env))))(hs:starEach (e::r) env=(false,eval e env)::starEach r env):
  SL C n L k (Xa x y) (spliced (backTo pos (starEach (e::r) env))):=by
 intro A g Ro Rq σ l s m v σ' T e' Q E h
 refine Y5 (Xu.of_toL e') λu σ1 e1 e2=>?_
 refine Y5 (Yj.of_toL e2) λus σ2 e3 e4=>?_
 cases e4
 rw[hs]
 refine spliced_cons (hx A g _ _ _ _ _ _ _ _ T e1 _ _ λh1 t1 Ru Rv m1 v1 G1 T1 R1=>?_)
 refine hy A g _ _ _ _ {s with heap:=h1,toks:=t1} _ _ _ T1 e3 _ _ λh2 t2 Rz RA m2 v2 G2 T2 R2=>?_
 exact h h2 t2 Rz RA m2 _ (G1.trans G2) T2 (.cons (R1.mono G2.pre) R2)
theorem Xju(j:Nat):Nat.land j 1=j % 2:=Nat.and_one_is_mod j
theorem Xp1(j:Nat):Nat.shiftRight j 1=j / 2:=Nat.shiftRight_eq_div_pow j 1
theorem Xkm(q:Nat):Nat.beq (Nat.land (2 * q + 1) 1) 1=true:=by rw[Xju,Nat.mul_add_mod];rfl
theorem Xkl(q:Nat):Nat.beq (Nat.land (2 * q + 2) 1) 1=false:=by rw[Xju,Nat.mul_add_mod];rfl
theorem XdO(q:Nat):Nat.shiftRight (2 * q + 1) 1=q:=by rw[Xp1,Nat.mul_add_div (by decide)];rfl
theorem XdN(q:Nat):Nat.sub (Nat.shiftRight (2 * q + 2) 1) 1=q:=by rw[Xp1,Nat.mul_add_div (by decide)];rfl
@[elab_as_elim] theorem UY{m:Nat->Prop}(i:Nat)(h0:m 0)(h1:∀q,m (2 * q + 1))(h2:∀q,m (2 * q + 2)):m i:=by
 induction i with
 |zero=>exact h0
 |succ n _=>
  rw[←Nat.div_add_mod n 2]
  rcases Nat.mod_two_eq_zero_or_one n with e |e
  ·rw[e];exact h1 _
  ·rw[e];exact h2 _
theorem Tr.getO{v:Option O}{l r:Tr}:(Tr.node v l r).get (2 * q + 1)=l.get q:=by
 show bc false v (bc (Nat.beq (Nat.land (2 * q + 1) 1) 1) (l.get (Nat.shiftRight (2 * q + 1) 1)) _)=_
 rw[Xkm,XdO]
theorem Tr.getE{v:Option O}{l r:Tr}:(Tr.node v l r).get (2 * q + 2)=r.get q:=by
 show bc false v (bc (Nat.beq (Nat.land (2 * q + 2) 1) 1) _ (r.get (Nat.sub (Nat.shiftRight (2 * q + 2) 1) 1)))=_
 rw[Xkl,XdN]
theorem Tr.layO:Tr.lay (f + 1) o (2 * q + 1)= .node none (Tr.lay f o q) .nil:=by
 show bc false (Tr.node (some o) .nil .nil) (bc (Nat.beq (Nat.land (2 * q + 1) 1) 1) (Tr.node none (Tr.lay f o (Nat.shiftRight (2 * q + 1) 1)) .nil) (Tr.node none .nil (Tr.lay f o (Nat.sub (Nat.shiftRight (2 * q + 1) 1) 1))))=_
 rw[Xkm,XdO]
theorem Tr.layE:Tr.lay (f + 1) o (2 * q + 2)= .node none .nil (Tr.lay f o q):=by
 show bc false (Tr.node (some o) .nil .nil) (bc (Nat.beq (Nat.land (2 * q + 2) 1) 1) (Tr.node none (Tr.lay f o (Nat.shiftRight (2 * q + 2) 1)) .nil) (Tr.node none .nil (Tr.lay f o (Nat.sub (Nat.shiftRight (2 * q + 2) 1) 1))))=_
 rw[Xkl,XdN]
theorem Tr.setO{v:Option O}{l r:Tr}:(Tr.node v l r).set o (2 * q + 1)= .node v (l.set o q) r:=by
 show bc false (Tr.node (some o) l r) (bc (Nat.beq (Nat.land (2 * q + 1) 1) 1) (Tr.node v (l.set o (Nat.shiftRight (2 * q + 1) 1)) r) (Tr.node v l (r.set o (Nat.sub (Nat.shiftRight (2 * q + 1) 1) 1))))=_
 rw[Xkm,XdO]
theorem Tr.setE{v:Option O}{l r:Tr}:(Tr.node v l r).set o (2 * q + 2)= .node v l (r.set o q):=by
 show bc false (Tr.node (some o) l r) (bc (Nat.beq (Nat.land (2 * q + 2) 1) 1) (Tr.node v (l.set o (Nat.shiftRight (2 * q + 2) 1)) r) (Tr.node v l (r.set o (Nat.sub (Nat.shiftRight (2 * q + 2) 1) 1))))=_
 rw[Xkl,XdN]
theorem dbl{p:Nat}(c:Nat)(e:2 * p + c=2 * q + c):p=q:=Nat.eq_of_mul_eq_mul_left (by decide:0 < 2) (Nat.add_right_cancel e)
theorem Xau{p:Nat}(e:2 * p + 1=2 * q + 2):False:=by lia
theorem Tr.lay_get{x:O}:∀{f i j:Nat},(Tr.lay f o i).get j=some x->j=i/\x=o:=by
 intro f
 induction f with
 |zero=>exact λh=>Xx h
 |succ f ih=>
  intro i j
  refine UY i ?_ (λq=>?_) λq=>?_
  ·exact UY j (λh=>⟨rfl,(QV h).symm⟩) (λp h=>Xx (Tr.getO.symm.trans h)) λp h=>Xx (Tr.getE.symm.trans h)
  ·rw[Tr.layO]
   exact UY j (λh=>Xx h) (λp h=>Iv (ih (Tr.getO.symm.trans h)) λe1 e2=>⟨by rw[e1],e2⟩) λp h=>Xx (Tr.getE.symm.trans h)
  ·rw[Tr.layE]
   exact UY j (λh=>Xx h) (λp h=>Xx (Tr.getO.symm.trans h)) λp h=>Iv (ih (Tr.getE.symm.trans h)) λe1 e2=>⟨by rw[e1],e2⟩
theorem Tr.set_get{x:O}:∀{t:Tr}{i j:Nat},(t.set o i).get j=some x->(j=i/\x=o)∨(j≠i/\t.get j=some x):=by
 intro t
 induction t with
 |nil=>exact λh=> .inl (Tr.lay_get (f:=16) h)
 |node v l r il ir=>
  intro i j
  refine UY i ?_ (λq=>?_) λq=>?_
  ·exact UY j (λh=> .inl ⟨rfl,(QV h).symm⟩) (λp h=> .inr ⟨nofun,Tr.getO.trans (Tr.getO.symm.trans h)⟩) λp h=> .inr ⟨nofun,Tr.getE.trans (Tr.getE.symm.trans h)⟩
  ·rw[Tr.setO]
   refine UY j (λh=> .inr ⟨nofun,h⟩) (λp h=>?_) λp h=> .inr ⟨λe=>Xau e.symm,Tr.getE.trans (Tr.getE.symm.trans h)⟩
   exact (il (Tr.getO.symm.trans h)).elim (λe=> .inl ⟨by rw[e.1],e.2⟩) λe=> .inr ⟨λy=>e.1 (dbl 1 y),Tr.getO.trans e.2⟩
  ·rw[Tr.setE]
   refine UY j (λh=> .inr ⟨nofun,h⟩) (λp h=> .inr ⟨λe=>Xau e,Tr.getO.trans (Tr.getO.symm.trans h)⟩) λp h=>?_
   exact (ir (Tr.getE.symm.trans h)).elim (λe=> .inl ⟨by rw[e.1],e.2⟩) λe=> .inr ⟨λy=>e.1 (dbl 2 y),Tr.getE.trans e.2⟩
theorem Ye(h:Heap):h.get? h.objs.size=none:=by
 induction e:h.get? h.objs.size with
 |none=>rfl
 |some o=>exact absurd (Qu e) (Nat.lt_irrefl _)
theorem OR.live(x:OR ρ Ro Rq h i a o):∃y,h.get? a=some y:=by
 induction o with
 |wheel es r g=>exact (WR.all x).2
 |inst c d=>exact JR.live (ρ:=ρ) (Ro:=Ro) (o:= .inst c d) x
 |flds c l=>exact JR.live (ρ:=ρ) (Ro:=Ro) (o:= .flds c l) x
 |list l=>exact JR.live (ρ:=ρ) (Ro:=Ro) (o:= .list l) x
 |tup l=>exact JR.live (ρ:=ρ) (Ro:=Ro) (o:= .tup l) x
 |idict l=>exact JR.live (ρ:=ρ) (Ro:=Ro) (o:= .idict l) x
 |barr=>exact JR.live (ρ:=ρ) (Ro:=Ro) (o:= .barr) x
 |src l=>exact JR.live (ρ:=ρ) (Ro:=Ro) (o:= .src l) x
theorem Rp.put(R:Rp C Ro Rq σ h)(hi:Ro[i]?=some a)(ha:Rq a=some i)(hk:∀b o,Rq b≠none->b≠a->h.get? b=some o->h'.get? b=some o)
  (h0:∀b o,C.H0.get? b=some o->h'.get? b=some o)(hb:C.H0.objs.size<=h'.objs.size)(hl:∀b o,h.get? b=some o->∃o',h'.get? b=some o')(ho:OR C.ρ Ro Rq h' i a o'):Rp C Ro Rq (σ.put i o') h' where
 len:=R.len
 old:=R.old
 keep:=h0
 big:=hb
 obj j x e:=by
  rcases Tr.set_get e with ⟨rfl,rfl⟩ |⟨e1,e2⟩
  ·exact ⟨a,hi,ha,ho⟩
  ·refine YO (R.obj j x e2) λb h1 h2 h3=>?_
   refine ⟨b,h1,h2,h3.mono h2 Qy (λc o hc ho=>hk c o (by rw[hc];exact nofun) ?_ ho) λ_ _=>rfl⟩
   rintro rfl
   rw[ha] at hc
   exact e1 (QV hc).symm
theorem Rp.new(R:Rp C Ro Rq σ h)(ha:h.get? a=none)(h0':C.H0.get? a=none)(hk:∀b o,Rq b≠none->h.get? b=some o->h'.get? b=some o)
  (h0:∀b o,C.H0.get? b=some o->h'.get? b=some o)(hb:C.H0.objs.size<=h'.objs.size)(ho:OR C.ρ (Ro++[a]) (λb=>if b=a then some σ.n else Rq b) h' σ.n a o'):
  Rp C (Ro++[a]) (λb=>if b=a then some σ.n else Rq b) ⟨σ.h.set o' σ.n,σ.n + 1⟩ h' where
 len:=by rw[Qw,R.len];rfl
 old b o e:=by
  have:b≠a:=by rintro rfl;rw[h0'] at e;cases e
  show (if b=a then some σ.n else Rq b)=none
  rw[if_neg this];exact R.old b o e
 keep:=h0
 big:=hb
 obj j x e:=by
  rcases Tr.set_get e with ⟨rfl,rfl⟩ |⟨e1,e2⟩
  ·exact ⟨a,by rw[←R.len];exact QU,if_pos rfl,ho⟩
  ·refine YO (R.obj j x e2) λb h1 h2 h3=>?_
   have hb:b≠a:=by
    rintro rfl
    obtain ⟨y,hy⟩:=h3.live
    rw[ha] at hy;exact Xx hy
   refine ⟨b,Yb (Qr _ _) h1,by show (if b=a then some σ.n else Rq b)=some j;rw[if_neg hb];exact h2,h3.mono h2 (Qr _ _) (λc o hc ho=>hk c o (by rw[hc];exact nofun) ho) λc hc=>if_neg ?_⟩
   rintro rfl
   rw[ha] at hc;exact ff hc
theorem XkG(F:Fr H0 L h m)(hL:∀o,h.get? L=some o->h'.get? L=some o)(h0:∀b o,H0.get? b=some o->h'.get? b=some o):Fr H0 L h' m:=by
 refine x32 F.ns λoL a1 a2 hl a3=>?_
 exact ⟨⟨oL,a1,a2,hL _ hl,a3⟩,h0,F.above⟩
theorem XJ.calm{X:Rn->Prop}(G:XJ (λ_=>False) Ro Rq h Rr Rt h'):XJ X Ro Rq h Rr Rt h':=G.weak λ_ x=>x.elim
theorem At.called(T:At C L Ro Rq σ l h m)
  (G:XJ (λ_=>False) Ro Rq h Rr Rt h')(R:Rp C Rr Rt σ' h'):At C L Rr Rt σ' l h' m where
 rp:=R
 fr:=XkG T.fr (λo e=>G.keep L o e T.ownL (λx=>x)) R.keep
 ownL:=by
  refine x32 T.fr.ns λoL _ _ hl _=>?_
  exact (G.same L _ hl).trans T.ownL
 lr:=T.lr.mono G.pre
 cel:=T.cel.gone G.calm
theorem Gz.got{l:List (Nat×V)}{es:List DictEntry}(F:Gz ρ Ro l es){x:Str}(hx:Zc[n]?=some x):
  (∀v,Xh l n=some v->∃y,getL x es=some (some y)/\VR ρ Ro v y)/\(Xh l n=none->getL x es=some none)/\es.any (·.refKey)=false:=by
 induction F with
 |nil=>exact ⟨λv e=>(by exact Xx e),λ_=>rfl,rfl⟩
 | @cons k v l x' t hs y es e hv F ih=>
  have hr:(⟨hs,.str x' t,y⟩::es:List DictEntry).any (·.refKey)=false:=by rw[List.any_cons,ih.2.2];rfl
  by_cases hk:k=n
  ·subst hk
   rw[hx] at e
   obtain rfl:=QV e
   have hf:(⟨hs,.str x t,y⟩::es:List DictEntry).find? (·.key.isStr x)=some ⟨hs,.str x t,y⟩:=by
    rw[List.find?_cons]
    have:(DictEntry.mk hs (Value.str x t) y).key.isStr x=true:=by show (x == x)=true;exact QR x
    rw[this]
   refine ⟨λu eu=>?_,λeu=>?_,hr⟩
   ·have:Xh ((k,v)::l) k=some v:=by show bc (Nat.beq k k) (some v) (Xh l k)=_;rw[QI]
    rw[this] at eu
    obtain rfl:=QV eu
    exact ⟨y,by unfold getL;rw[hf],hv⟩
   ·have:Xh ((k,v)::l) k=some v:=by show bc (Nat.beq k k) (some v) (Xh l k)=_;rw[QI]
    rw[this] at eu;exact snn eu
  ·have hne:x'≠x:=by rintro rfl;exact hk (Ix e hx)
   have hl:Xh ((k,v)::l) n=Xh l n:=by show bc (Nat.beq k n) (some v) (Xh l n)=_;rw[Yl hk]
   have hf:getL x (⟨hs,.str x' t,y⟩::es)=getL x es:=by
    unfold getL
    rw[List.find?_cons,List.any_cons]
    have:(DictEntry.mk hs (Value.str x' t) y).key.isStr x=false:=by show (x' == x)=false;exact beq_false_of_ne hne
    rw[this]
    rfl
   rw[hl,hf]
   exact ⟨ih.1,ih.2.1,hr⟩
theorem VR.handed{y:Rm}(h:VR ρ Ro v y):handedIn y=true/\handedOut y=pure y:=by induction h<;>exact ⟨rfl,rfl⟩
theorem Z9{K:Frag}{c:Rn}{x y:Str}(h:plainGet K c x=true):plainGet K c y=true:=h
noncomputable def UG(e:Expr):Bool:=Ki e (λf as ks _=> !(isX 23 f&&(as.isEmpty&&ks.isEmpty))) true
theorem BV{o:Expr}{attr:Str}(h:UG o=true):attributeBase o attr env whole=whole:=by
 cases o with
 |Call f as ks p=>cases f with
  |Name x q=>induction as with
   |nil=>induction ks with
    |nil=>exact ff h
    |cons _ _=>rfl
   |cons _ _=>rfl
  |_=>rfl
 |_=>rfl
theorem XfK{o:Expr}{attr:Str}(h:UG o=true):eval (.Attribute o attr pos) env=(do
   let v ←eval o env
   standAt pos.atName
   let r ←holding [v] (getAttr v attr true)
   letTemporaryGo o v r
   pure r):=by
 show (attributeBase o attr env (eval o env)>>=_)=_
 rw[BV h]
theorem D3{c d:Nat}{c':Nat}(R:Rp C Ro Rq σ h)(ha:Ro[j]?=some a)(e1:σ.get j=some (.inst c d))(e2:σ.get d=some (.flds c' fs)):
  ∃dx es nn,Ro[d]?=some dx/\Rq dx=some d/\Rq a=some j/\h.get? a=some (instObj c dx)/\h.get? dx=some (dictOf es nn)/\Gz C.ρ Ro fs es/\InstAt h a (instObj c dx) c (some (dictOf es nn))/\
   (fs.map (·.1)).Nodup/\∃cl,Xr.get c'=some cl/\∀p∈fs,WX cl.mask p.1=true:=by
 refine YO (R.obj j _ e1) λa' h1 h2 h3=>?_
 rw[ha] at h1
 obtain rfl:=QV h1
 refine YB h3 λdx h4 h5=>?_
 refine YO (R.obj d _ e2) λdx' h6 h7 zz1=>?_;refine x24 zz1 λes nn h8 h9 h10 h11=>?_
 rw[h4] at h6
 obtain rfl:=QV h6
 exact ⟨dx,es,nn,h4,h7,h2,h5,h8,h9,⟨h5,rfl,rfl,h8⟩,h10,h11⟩
theorem Na{l:List (Nat×α)}{v:α}(h:Xh l n=some v):(n,v)∈l:=by
 induction l with
 |nil=>exact Xx h
 |cons p r ih=>
  replace h:bc (Nat.beq p.1 n) (some p.2) (Xh r n)=some v:=h
  by_cases hp:p.1=n
  ·subst hp
   rw[QI] at h
   obtain rfl:=QV h
   exact Ql
  ·rw[Yl hp] at h
   exact Qm _ (ih h)
set_option tactic.hygienic true in
theorem Xaf(O:C.Ok)(hc:XB C n k.call)(hk:k.cls=Xr.get)(g:YK A n){Ro Rq σ l s m i nm u v1 v σ' b}(T:At C L Ro Rq σ l s.heap m)(R1:VR C.ρ Ro u v1)(hn:Zc[i]?=some nm)
  (e:Kk k i u σ= .ok v σ'){E}(h:PE C L Ro Rq s.heap σ' l v Q s):wpAny (model C.prog C.w) A (getAttr v1 nm b) Q E s:=by
 induction R1 with
 |ref j a ha=>
  replace e:MW k j i σ (σ.get j)= .ok v σ':=e
  induction q:σ.get j with
  |none=>rw[q] at e;exact Y3 e
  |some o=>
   rw[q] at e
   refine Zx λ_ kk=>?_
   induction o<;>first |exact Y3 e |(refine kk ?_;clear kk)
   rename_i c d
   replace e:MN k j i c σ (σ.get d)= .ok v σ':=e
   induction q2:σ.get d with
   |none=>rw[q2] at e;exact Y3 e
   |some o=>
    rw[q2] at e
    refine Zx λ_ kk=>?_
    induction o<;>first |exact Y3 e |(refine kk ?_;clear kk)
    rename_i c' fs
    replace e:bc (Nat.beq c c') (@Option.rec V (λ_=>Xu) (Oh k j i σ (k.cls c)) (λv=> .ok v σ) (Xh fs i)) .no= .ok v σ':=e
    by_cases hcc:c=c'
    ·subst hcc
     rw[QI] at e
     refine x38 (D3 T.rp ha q q2) λdx es nn h4 h7 h2 h5 h8 F I zz2=>?_;refine Iv zz2 λhnd zz3=>?_;refine YB zz3 λcl hcl hm=>?_
     have K:=O.cls c cl hcl
     have f:=F.got hn
     induction q3:Xh fs i with
     |some y=>
      rw[q3] at e
      replace h:=h.eq e
      refine YB (f.1 _ q3) λy' e4 e5=>?_
      refine YO (K.fld i nm (hm _ (Na q3)) hn) λattr f1 f2 _=>?_
      exact get_own T.fr O.inK I (Z9 K.get) K.hasD f1 f2 e4 e5.handed.1 (h _ _ _ _ _ _ .refl T e5)
     |none=>
      rw[q3] at e
      replace e:Oh k j i σ (k.cls c)= .ok v σ':=e
      rw[hk,hcl] at e
      refine WA (show oc (Xh cl.props i) Xu.no (λa=>k.call (.fn a) [.ref j] σ)= .ok v σ' from e) λa' e6 e7=>?_
      refine x35 (K.prop i a' e6) λx p rest g1 g2 g3 g4 g5=>?_
      rw[hn] at g1
      obtain rfl:=QV g1
      refine get_prop T.fr O.inK I (Z9 K.get) K.hasD g2 g3 g4 g5 ?_
      refine hc A.in1 g.in1 _ _ _ _ _ _ _ {s with toks:=s.toks + 1} _ _ e7 T.rp (.fn a') (.cons (.ref j a ha) .nil) _ λh' t Rr Rt val G R V=>?_
      show wpAny _ A (handedOut val) Q E _
      rw[V.handed.2]
      exact Qh (h h' t Rr Rt m val G.calm (T.called G R) V)
    ·rw[Yl hcc] at e;exact Y3 e
 |none=>exact Y3 e
 |bool _=>exact Y3 e
 |int _ _ _ _=>exact Y3 e
 |str _ _ _ _=>exact Y3 e
 |bytes _ _ _=>exact Y3 e
 |fn _=>exact Y3 e
 |cls _=>exact Y3 e
 |cond _ _ _=>exact Y3 e
theorem Xpu(O:C.Ok)(hc:XB C n k.call)(hk:k.cls=Xr.get)(hx:SE C n L k x (eval e env))(hn:Zc[i]?=some nm)(hb:UG e=true):
  SE C n L k (Xj x i) (eval (.Attribute e nm pos) env):=by
 intro A g Ro Rq σ l s m v σ' T e' Q E h
 refine Js e' λu σ1 e1 e2=>?_
 refine Attribute_any_ (hx A g _ _ _ _ _ _ _ _ T e1 _ _ λh1 t1 Ru Rv m1 v1 G1 T1 R1=>?_) (XfK hb)
 exact Xaf (s:={s with heap:=h1,toks:=t1}) O hc hk g T1 R1 hn e2 (h.step G1)
def Y9(e:Expr):Bool:= !isX 22 e
def Ys(es:List Expr):Bool:=es.all Y9
theorem XX(h:Y9 e=true):starEach (e::r) env=(false,eval e env)::starEach r env:=by
 cases e<;>first |rfl |cases h
theorem Jd:∀{es:List Expr},Ys es=true->(backTo pos (starEach es env)).any (·.1)=false:=by
 intro ux
 induction ux with
 |nil=>
  intro _
  exact rfl
 |cons e r ih=>
  intro h
  refine b2 (show (Y9 e&&Ys r)=true from h) λh1 h2=>?_
  rw[XX h1]
  show (false||(backTo pos (starEach r env)).any (·.1))=false
  rw[ih h2]
  rfl
theorem Dq(h:Ys es=true):(backTo pos (starEach es env)).all (!·.1)=true:=by
 have h':=Jd (env:=env) (pos:=pos) h
 rw[List.any_eq_false] at h'
 rw[List.all_eq_true]
 intro x hx
 induction q:x.1 with
 |false=>rfl
 |true=>exact absurd q (h' x hx)
theorem Xec{o:Expr}(hb:UG o=true)(hs:Ys args=true)(hl:args.length < 30)(hp:(apos.endLine == pos.line)=true):
  eval (.Call (.Attribute o name apos) args [] pos) env=(do
   let ov ←eval o env
   standAt apos.atName
   let (f,first) ←holding [ov] (getMethod ov name (do return (←importBound o env).getD true))
   callWith pos f first (backTo pos (starEach args env)) []):=by
 show (attributeBase o name env (eval o env)>>=λov=>standAt apos.atName>>=λ_=>methodCall o name apos pos env ov (args.length + 0) (backTo pos (starEach args env)) [])=_
 rw[BV hb]
 have hf:methodCallForm (args.length + 0) (backTo pos (starEach args env)) []=true:=by
  unfold methodCallForm
  rw[Dq hs]
  show (true&&true&&decide (args.length + 0 + 0 < 30))=true
  rw[Qo (by lia)]
  rfl
 unfold methodCall
 rw[hf]
 unfold methodCallPos
 rw[hp]
 rfl
theorem B0(O:C.Ok)(hc:XB C n k.call)(g:YK A n){Ro Rq σ l s m f us v σ' fv vs}(T:At C L Ro Rq σ l s.heap m)(Rf:VR C.ρ Ro f fv)(Rs:YH C.ρ Ro us vs)
  (e:k.call f us σ= .ok v σ'){E}(h:PE C L Ro Rq s.heap σ' l v Q s):wpAny (model C.prog C.w) A (call fv vs) Q E s:=
 wpAny_call (hc A g.cc _ _ _ _ _ _ _ s _ _ e T.rp Rf Rs _ λh' t Rr Rt val G R V=>h h' t Rr Rt m val G.calm (T.called G R) V)
theorem YH.app{u u':List V}{v v':List Rm}(x:YH ρ Ro u v)(y:YH ρ Ro u' v'):YH ρ Ro (u++u') (v++v'):=by
 induction x with
 |nil=>exact y
 |cons h _ ih=>exact .cons h ih
theorem DG(O:C.Ok)(hc:XB C n k.call)(g:YK A n){Ro Rq σ l s m f v σ' fv fst first}{y:ML}{us σ1}(hs:Ys args=true)
  (hy:SL C n L k y (spliced (backTo pos (starEach args env))))(h0:args=[]->y=Xe)(T:At C L Ro Rq σ l s.heap m)(Rf:VR C.ρ Ro f fv)(Rs:YH C.ρ Ro fst first)(hk:keepIn C.K fv=true)
  (e1:y k l σ= .ok us σ1)(e:k.call f (fst++us) σ1= .ok v σ'){E}(h:PE C L Ro Rq s.heap σ' l v Q s):wpAny (model C.prog C.w) A (callWith pos fv first (backTo pos (starEach args env)) []) Q E s:=by
 induction args with
 |nil=>
  rw[h0 rfl] at e1
  cases e1
  exact callWith_K0 (T.okK O) hk (B0 O hc g T Rf (Rs.app .nil) e h)
 |cons a r=>
  refine b2 (show (Y9 a&&Ys r)=true from hs) λh1 h2=>?_
  refine callWith_K O.inK hk (hy A g _ _ _ _ _ _ _ _ T e1 _ _ λh' t Ru Rv m1 vs G1 T1 R1=>?_) (XX h1) (Jd h2)
  exact ⟨T1.okK O,B0 (s:={s with heap:=h',toks:=t}) O hc g T1 (Rf.mono G1.pre) ((Rs.mono G1.pre).app R1) e (h.step G1)⟩
theorem XjO(O:C.Ok)(hc:XB C n k.call){f:V}{fv:Rm}{x:Str}{y:ML}(hf:SE C n L k (Xv f) (eval (.Name x p) env))(hff:∀Ro u,VR C.ρ Ro f u->u=fv)(hk:keepIn C.K fv=true)
  (hs:Ys args=true)(hy:SL C n L k y (spliced (backTo pos (starEach args env))))(h0:args=[]->y=Xe):
  SE C n L k (Xk f y) (eval (.Call (.Name x p) args [] pos) env):=by
 intro A g Ro Rq σ l s m v σ' T e' Q E h
 refine Ir e' λus σ1 e1 e2=>?_
 refine Call_ (hf A g _ _ _ _ _ _ _ _ T rfl _ _ λh1 t1 Ru Rv m1 v1 G1 T1 R1=>?_)
 have:=hff _ _ R1
 subst this
 exact DG (s:={s with heap:=h1,toks:=t1}) O hc g hs hy h0 T1 R1 .nil hk e1 e2 (h.step G1)
set_option tactic.hygienic true in
theorem Bc(O:C.Ok)(hc:XB C n k.call)(hk:k.cls=Xr.get)(g:YK A n){Ro Rq σ l s m j a c d i nm v σ'}{y:ML}(hs:Ys args=true)
  (hy:SL C n L k y (spliced (backTo pos (starEach args env))))(h0:args=[]->y=Xe)(T:At C L Ro Rq σ l s.heap m)(ha:Ro[j]?=some a)(hn:Zc[i]?=some nm)(q:σ.get j=some (.inst c d))
  (e:De k y i j l σ (some (.inst c d))= .ok v σ'){E}(h:PE C L Ro Rq s.heap σ' l v Q s):
  wpAny (model C.prog C.w) A (getMethod (.ref a) nm pl) (λfx s₂=>wpAny (model C.prog C.w) A (callWith pos fx.1 fx.2 (backTo pos (starEach args env)) []) Q E s₂) E s:=by
 replace e:bc (IF i (σ.get d)) (Uk k y i j l σ (k.cls c)) .no= .ok v σ':=e
 induction q2:σ.get d with
 |none=>rw[q2] at e;exact Y3 e
 |some o=>
  rw[q2] at e
  refine Zx λ_ kk=>?_
  induction o<;>first |exact Y3 e |(refine kk ?_;clear kk)
  rename_i c' fs
  induction q3:Xh fs i with
  |some y'=>
   replace e:bc (@Option.rec V (λ_=>Bool) true (λ_=>false) (Xh fs i)) (Uk k y i j l σ (k.cls c)) .no= .ok v σ':=e
   rw[q3] at e;exact Y3 e
  |none=>
   replace e:bc (@Option.rec V (λ_=>Bool) true (λ_=>false) (Xh fs i)) (Uk k y i j l σ (k.cls c)) .no= .ok v σ':=e
   rw[q3] at e
   replace e:Uk k y i j l σ (k.cls c)= .ok v σ':=e
   rw[hk] at e
   refine WA (show oc (Xr.get c) Xu.no (λc=>oc (Xh c.meths i) .no λa=>(y k l σ).to .no λvs s=>k.call (.fn a) (.ref j::vs) s)= .ok v σ' from e) λcl e1 e2=>?_
   refine WA e2 λf e3 e4=>?_
   refine Ir e4 λus σ1 e5 e6=>?_
   refine x14 ((O.cls c cl e1).meth i f e3) λx f1 f2 f3 f4=>?_
   rw[hn] at f1
   obtain rfl:=QV f1
   refine x38 (D3 T.rp ha q q2) λdx es nn h4 h7 h2 h5 h8 F I zz1=>?_;obtain ⟨hnd,_⟩:=zz1
   have fg:=(F.got hn).2.1 q3
   exact method_inst T.fr O.inK I (Z9 (O.cls c cl e1).get) f2 f3 fg (DG O hc g hs hy h0 T (.fn f) (.cons (.ref j a ha) .nil) f4 e5 e6 h)
theorem XmB(ρ:Nat->Int)(i:Nat)(a:Int):∀l,tv ρ (XdT i a l)=a * ρ i + tv ρ l:=by
 intro ux
 induction ux with
 |nil=>
  exact rfl
 |cons ua r ih=>
  obtain ⟨j,b⟩:=ua
  show tv ρ (bc (Nat.blt i j) _ (bc (Nat.beq i j) (bc (decide (a + b=0)) r _) _))=_
  induction h1:Nat.blt i j with
  |true=>rfl
  |false=>
   induction h2:Nat.beq i j with
   |true=>
    have:=Qi h2
    subst this
    show tv ρ (bc (decide (a + b=0)) r _)=_
    by_cases h3:a + b=0
    ·rw[Qo h3]
     show tv ρ r=a * ρ i + (b * ρ i + tv ρ r)
     have:a * ρ i + b * ρ i=0:=by rw[←Int.add_mul,h3,Int.zero_mul]
     lia
    ·rw[Qn h3]
     show (a + b) * ρ i + tv ρ r=a * ρ i + (b * ρ i + tv ρ r)
     rw[Int.add_mul];lia
   |false=>
    show b * ρ j + tv ρ (XdT i a r)=a * ρ i + (b * ρ j + tv ρ r)
    rw[ih];lia
theorem IN(ρ:Nat->Int):∀x y,tv ρ (WM x y)=tv ρ x + tv ρ y
 | [],y=>by show tv ρ y=0 + tv ρ y;lia
 |(i,a)::r,y=>by
  show tv ρ (XdT i a (WM r y))=a * ρ i + tv ρ r + tv ρ y
  rw[XmB,IN];lia
theorem XmA(ρ:Nat->Int)(x y:List (Nat×Int)):tv ρ (Xfz x y)=tv ρ x + tv ρ y:=by
 unfold Xfz
 induction y with
 |nil=>
  induction x with
  |nil=>rfl
  |cons p r=>show tv ρ (WM (p::r) [])=_;rw[IN]
 |cons q s=>
  induction x with
  |nil=>show tv ρ (q::s)=0 + _;lia
  |cons p r=>show tv ρ (WM (p::r) (q::s))=_;rw[IN]
theorem Xfi(ρ:Nat->Int)(k:Int):∀x,tv ρ (Gd k x)=k * tv ρ x:=by
 intro ux
 induction ux with
 |nil=>
  show (0:Int)=k * 0;rw[Int.mul_zero]
 |cons ua r ih=>
  obtain ⟨i,a⟩:=ua
  show k * a * ρ i + tv ρ (Gd k r)=k * (a * ρ i + tv ρ r)
  rw[ih,Int.mul_add,Int.mul_assoc]
theorem Xs(ρ:Nat->Int)(c:Int):(Xn c).val ρ=c:=Rb c
theorem XH{a:LI}{c:Int}(h:a.lit?=some c):a.val ρ=c:=by
 obtain ⟨c',t⟩:=a
 induction t with
 |nil=>obtain rfl:=QV h;exact Rb _
 |cons _ _=>exact Xx h
theorem ZS(ρ:Nat->Int)(a b:LI):(a.add b).val ρ=a.val ρ + b.val ρ:=by
 show a.c + b.c + tv ρ (Xfz a.t b.t)=a.c + tv ρ a.t + (b.c + tv ρ b.t)
 rw[XmA];lia
theorem JI(ρ:Nat->Int)(a b:LI):(a.sub b).val ρ=a.val ρ - b.val ρ:=by
 show a.c - b.c + tv ρ (@List.rec _ (λ_=>List (Nat×Int)) a.t (λ_ _ _=>WM a.t (Gd (-1) b.t)) b.t)=a.c + tv ρ a.t - (b.c + tv ρ b.t)
 induction hb:b.t with
 |nil=>show a.c - b.c + tv ρ a.t=a.c + tv ρ a.t - (b.c + 0);lia
 |cons p r=>
  show a.c - b.c + tv ρ (WM a.t (Gd (-1) (p::r)))=_
  rw[IN,Xfi];lia
theorem U6(ρ:Nat->Int)(k:Int)(a:LI):(a.smul k).val ρ=k * a.val ρ:=by
 obtain ⟨c,t⟩:=a
 induction t with
 |nil=>show k * c + 0=k * (c + 0);rw[Rb,Rb]
 |cons p r=>
  show (bc (decide (k=0)) (⟨0,[]⟩:LI) ⟨k * c,Gd k (p::r)⟩).val ρ=k * (c + tv ρ (p::r))
  by_cases hk:k=0
  ·subst hk;show (0:Int) + 0=0 * _;rw[Int.zero_mul];rfl
  ·rw[Qn hk]
   show k * c + tv ρ (Gd k (p::r))=_
   rw[Xfi,Int.mul_add]
theorem MI:∀{x y:List (Nat×Int)},eqT x y=true->x=y
 | [],[],_=>rfl
 | [],_::_,h=>by exact ff h
 |_::_,[],h=>by exact ff h
 |(i,a)::x,(j,b)::y,h=>by
  refine b3 (show (Nat.beq i j&&(decide (a=b)&&eqT x y))=true from h) λh1 h3 h4=>?_
  rw[Qi h1,Qt h3,MI h4]
def Xm(ρ:Nat->Int)(F:XA):Prop:=∀t c b,(t,c,b)∈F->b=decide (0<=c + tv ρ t)
set_option tactic.hygienic true in
theorem Xcv:∀{F:XA}{t:List (Nat×Int)}{e:Int}{b:Bool},Xm ρ F->WP F t e=some b->b=decide (0<=e + tv ρ t):=by
 intro ux
 induction ux with
 |nil=>
  intro _ _ _ _ h
  exact Xx h
 |cons ua r ih=>
  obtain ⟨t,c,b⟩:=ua
  intro u e b' H h
  have Hr:Xm ρ r:=λt c b hm=>H t c b (Qm _ hm)
  have H1:=H t c b Ql
  replace h:bc (eqT t u) (bc b (bc (decide (c<=e)) (some true) (WP r u e)) (bc (decide (e<=c)) (some false) (WP r u e))) (WP r u e)=some b':=h
  induction hq:eqT t u with
  |false=>rw[hq] at h;exact ih Hr h
  |true=>
   rw[hq] at h
   have:=MI hq
   subst this
   induction b with
   |true=>
    induction hc:decide (c<=e) with
    |false=>rw[hc] at h;exact ih Hr h
    |true=>
     rw[hc] at h
     obtain rfl:=QV h
     exact (Qo (Re (Qt H1.symm) (Int.add_le_add_right (Qt hc) _))).symm
   |false=>
    induction hc:decide (e<=c) with
    |false=>rw[hc] at h;exact ih Hr h
    |true=>
     rw[hc] at h
     obtain rfl:=QV h
     exact (Qn λx=>of_decide_eq_false H1.symm (Re x (Int.add_le_add_right (Qt hc) _))).symm
theorem Wj(i:Int):nn i=decide (0<=i):=by
 induction i with
 |ofNat n=>exact (Qo (Int.natCast_nonneg n)).symm
 |negSucc n=>exact (Qn (by lia)).symm
theorem Xfu(i:Int):zz i=decide (i=0):=by
 induction i with
 |ofNat n=>
  show Nat.beq n 0=_
  by_cases h:n=0
  ·subst h;rfl
  ·rw[Yl h];exact (Qn (by show ¬((n:Int)=0);lia)).symm
 |negSucc n=>exact (Qn (by lia)).symm
theorem JY{a:LI}{b:Bool}(H:Xm ρ F)(h:Wx F a=some b):b=decide (0<=a.val ρ):=by
 obtain ⟨c,t⟩:=a
 induction t with
 |nil=>
  replace h:some (nn c)=some b:=h
  obtain rfl:=QV h
  rw[Wj]
  show decide (0<=c)=decide (0<=c + 0)
  rw[Rb]
 |cons p r=>exact Xcv H h
theorem Db{a b:LI}{r:Bool}(H:Xm ρ F)(h:JP F a b=some r):r=decide (a.val ρ<=b.val ρ):=by
 rw[JY H h,JI]
 exact decide_eq_decide.mpr (by lia)
theorem N5{a b:LI}{r:Bool}(H:Xm ρ F)(h:Ow F a b=some r):r=decide (a.val ρ < b.val ρ):=by
 rw[JY H h,ZS,JI,show LI.val ρ ⟨-1,[]⟩= -1 from rfl]
 exact decide_eq_decide.mpr (by lia)
set_option tactic.hygienic true in
theorem Xh3{a b:LI}{r:Bool}(H:Xm ρ F)(h:eqL F a b=some r):r=decide (a.val ρ=b.val ρ):=by
 have hv:=JI ρ a b
 unfold eqL at h
 induction q:(a.sub b).t with
 |nil=>
  rw[q] at h
  replace h:some (zz (a.sub b).c)=some r:=h
  obtain rfl:=QV h
  rw[Xfu]
  have:(a.sub b).val ρ=(a.sub b).c:=by show (a.sub b).c + tv ρ (a.sub b).t=_;rw[q];exact Rb _
  exact decide_eq_decide.mpr (by lia)
 |cons p s=>
  rw[q] at h
  replace h:eqS F a b=some r:=h
  refine Xos h (λh1 e=>?_) λh=>Xos h (λh1 e=>?_) λh=>Xx h
  ·rw[e]
   have:=of_decide_eq_false (JY H h1).symm
   exact (Qn (by lia)).symm
  ·rw[e]
   have:=of_decide_eq_false (JY H h1).symm
   have:=JI ρ b a
   exact (Qn (by lia)).symm
theorem YH.length{u:List V}{v:List Rm}(x:YH ρ Ro u v):u.length=v.length:=by
 induction x with
 |nil=>rfl
 |cons _ _ ih=>rw[Qp,Qp,ih]
theorem YH.at{u:List V}{v:List Rm}(x:YH ρ Ro u v):∀{i:Nat}{a:V}{b:Rm},u[i]?=some a->v[i]?=some b->VR ρ Ro a b:=by
 induction x with
 |nil=>intro i a b h;exact Xx h
 |cons h _ ih=>
  intro i a b h1 h2
  induction i with
  |zero=>obtain rfl:=QV h1;obtain rfl:=QV h2;exact h
  |succ i=>exact ih h1 h2
theorem XaQ:Ih.Nodup:=YN XgM (by decide +kernel)
theorem Xcg{x y:Str}(h1:Ih[i]?=some x)(h2:Ih[j]?=some y):(x == y)=Nat.beq i j:=by
 by_cases h:i=j
 ·subst h
  rw[h1] at h2
  obtain rfl:=QV h2
  rw[QI];exact QR x
 ·rw[Yl h]
  refine beq_false_of_ne ?_
  rintro rfl
  obtain ⟨a,e1⟩:=Qa h1
  obtain ⟨b,e2⟩:=Qa h2
  exact h ((List.getElem_inj XaQ).mp (e1.trans e2.symm))
theorem Xc8:∀{x y:List Nat},eqB x y=decide (x=y)
 | [],[]=>rfl
 | [],_::_=>rfl
 |_::_,[]=>rfl
 |a::x,b::y=>by
  show (Nat.beq a b&&eqB x y)=_
  rw[Xc8]
  by_cases h:a=b
  ·subst h
   rw[QI,Bool.true_and]
   exact decide_eq_decide.mpr (by simp)
  ·rw[Yl h,Bool.false_and]
   exact (Qn λe=>h (List.cons.inj e).1).symm
theorem OZ:∀{x y:List Nat},(x.all λn=>Nat.ble n 255)=true->(y.all λn=>Nat.ble n 255)=true->x.map Nat.toUInt8=y.map Nat.toUInt8->x=y
 | [],[],_,_,_=>rfl
 | [],_::_,_,_,h=>by injection h
 |_::_,[],_,_,h=>by injection h
 |a::x,b::y,h1,h2,h=>by
  obtain ⟨e1,e2⟩:=List.cons.inj h
  refine b2 (show (Nat.ble a 255&&x.all _)=true from h1) λp1 p2=>?_
  refine b2 (show (Nat.ble b 255&&y.all _)=true from h2) λq1 q2=>?_
  have ha:=Qv p1
  have hb:=Qv q1
  have:a=b:=by
   have:=congrArg UInt8.toNat e1
   change (UInt8.ofNat a).toNat=(UInt8.ofNat b).toNat at this
   rw[UInt8.toNat_ofNat',UInt8.toNat_ofNat',Nat.mod_eq_of_lt (Nat.lt_succ_of_le ha),Nat.mod_eq_of_lt (Nat.lt_succ_of_le hb)] at this
   exact this
  rw[this,OZ p2 q2 e2]
structure Eq3(A:Around)(s:Rk)(x y:Rm)(r:Bool):Prop where
 rc:SeqAt.RcAt A s x y r
 ne:SeqAt.RcNeAt A s x y (!r)
 eq:SeqAt.EqAt A s x y r
set_option tactic.hygienic true in
theorem Xab{q:V->V->Option Bool}:∀{x y:List V}{r:Bool},Xbh q x y=some r->x.length=y.length/\∃f:Nat->Bool,(∀i a b,x[i]?=some a->y[i]?=some b->q a b=some (f i))/\r=(List.range x.length).all f:=by
 intro x
 induction x with
 |nil=>
  intro y r h
  induction y with
  |nil=>obtain rfl:=QV h;exact ⟨rfl,λ_=>true,λi a b h=>Xx h,rfl⟩
  |cons _ _ _=>exact Xx h
 |cons a x ih=>
  intro y r h
  induction y with
  |nil=>exact Xx h
  |cons b y _=>
   refine Z8 h λp hp h=>Z8 h λr' hr h=>?_
   obtain rfl:=QV h
   refine Iv (ih hr) λh1 zz1=>?_;refine YB zz1 λf h2 h3=>?_
   refine ⟨by rw[Qp,Qp,h1],@Nat.rec (λ_=>Bool) p λi _=>f i,?_,?_⟩
   ·intro i u v e1 e2
    induction i with
    |zero=>obtain rfl:=QV e1;obtain rfl:=QV e2;exact hp
    |succ i=>exact h2 i u v e1 e2
   ·rw[Qp,List.range_succ_eq_map,List.all_cons,List.all_map,h3];rfl
theorem D2(h:j < vs.toArray.size):vs[j]?=some (vs.toArray[j]):=by
 rw[List.getElem_toArray]
 exact Qq _
set_option tactic.hygienic true in
theorem XkB(H:Xm C.ρ F){q:V->V->Option Bool}
  (hN:N < 9890)(hq:∀A:Around,A.units<=N + 1->∀a b r x y,q a b=some r->VR C.ρ Ro a x->VR C.ρ Ro b y->Eq3 A s x y r)(R:Rp C Ro Rq σ s.heap)
  (hu:A.units<=N){b:Rn}(ha:Ro[i]?=some a)(hb:Ro[j]?=some b)(hab:i≠j){r:Bool}(e:eqR q (σ.get i) (σ.get j)=some r):Eq3 A s (.ref a) (.ref b) r:=by
 have hu':A.units < cLine:=by show A.units < 9900;lia
 have hu1:A.in1.units<=N + 1:=by show A.units + 1<=N + 1;lia
 induction p1:σ.get i with
 |none=>rw[p1] at e;exact Xx e
 |some o1=>
  induction p2:σ.get j with
  |none=>rw[p1,p2] at e;induction o1<;>exact Xx e
  |some o2=>
   rw[p1,p2] at e
   refine YO (R.obj i _ p1) λa' f1 f2 f3=>?_
   rw[ha] at f1;obtain rfl:=QV f1
   refine YO (R.obj j _ p2) λb' g1 g2 g3=>?_
   rw[hb] at g1;obtain rfl:=QV g1
   have hne:a≠b:=by
    rintro rfl
    rw[f2] at g2
    exact hab (QV g2)
   induction o1<;>try (exact Xx e;done)
   ·rename_i x
    induction o2<;>try (exact Xx e;done)
    rename_i y
    refine Y5 f3 λvs n1 h1 h2=>?_
    refine Y5 g3 λws n2 h3 h4=>?_
    have l1:s.heap.IsList a vs.toArray:=⟨_,h1,rfl,n1,rfl⟩
    have l2:s.heap.IsList b ws.toArray:=⟨_,h3,rfl,n2,rfl⟩
    replace e:bc (Nat.beq x.length y.length) (Xbh q x y) (some false)=some r:=e
    have s1:vs.toArray.size=x.length:=by rw[Qx,h2.length]
    have s2:ws.toArray.size=y.length:=by rw[Qx,h4.length]
    refine GK e (λ_ e=>?_) λhl e=>?_
    rotate_left
    ·obtain rfl:=QV e
     have:(vs.toArray.size != ws.toArray.size)=true:=by
      rw[s1,s2]
      have:=Nat.ne_of_beq_eq_false hl
      simpa using this
     exact ⟨.lists_lengths l1 l2 this hu',.lists_lengths l1 l2 this hu',.of_refs hne (.lists_lengths l1 l2 this hu')⟩
    ·refine Iv (Xab e) λt1 zz2=>?_;refine YB zz2 λf t2 t3=>?_
     have hsz:vs.toArray.size=ws.toArray.size:=by rw[s1,s2,t1]
     have he:∀k (h1:k < vs.toArray.size)(h2:k < ws.toArray.size),SeqAt.EqAt A.in1 s vs.toArray[k] ws.toArray[k] (f k):=λk k1 k2=>by
      have hx:x[k]?=some x[k]:=Qq (by lia)
      have hy:y[k]?=some y[k]:=Qq (by lia)
      exact (hq A.in1 hu1 _ _ _ _ _ (t2 k _ _ hx hy) (h2.at hx (D2 k1)) (h4.at hy (D2 k2))).eq
     have hr:r=(List.range vs.toArray.size).all f:=by rw[t3,s1]
     rw[hr]
     exact ⟨.lists l1 l2 hsz hu' he,.lists l1 l2 hsz hu' he,.of_refs hne (.lists l1 l2 hsz hu' he)⟩
   ·rename_i x
    induction o2<;>try (exact Xx e;done)
    rename_i y
    refine Y5 f3 λvs n1 h1 h2=>?_
    refine Y5 g3 λws n2 h3 h4=>?_
    have l1:s.heap.IsTuple a vs.toArray:=⟨_,h1,rfl,n1,rfl⟩
    have l2:s.heap.IsTuple b ws.toArray:=⟨_,h3,rfl,n2,rfl⟩
    replace e:Xbh q x y=some r:=e
    have s1:vs.toArray.size=x.length:=by rw[Qx,h2.length]
    have s2:ws.toArray.size=y.length:=by rw[Qx,h4.length]
    refine Iv (Xab e) λt1 zz3=>?_;refine YB zz3 λf t2 t3=>?_
    have hsz:vs.toArray.size=ws.toArray.size:=by rw[s1,s2,t1]
    have he:∀k (h1:k < vs.toArray.size)(h2:k < ws.toArray.size),SeqAt.EqAt A.in1 s vs.toArray[k] ws.toArray[k] (f k):=λk k1 k2=>by
     have hx:x[k]?=some x[k]:=Qq (by lia)
     have hy:y[k]?=some y[k]:=Qq (by lia)
     exact (hq A.in1 hu1 _ _ _ _ _ (t2 k _ _ hx hy) (h2.at hx (D2 k1)) (h4.at hy (D2 k2))).eq
    have hr:r=((List.range (min vs.toArray.size ws.toArray.size)).all f&&vs.toArray.size == ws.toArray.size):=by rw[t3,←hsz,Nat.min_self,s1,QR,Bool.and_true]
    rw[hr]
    exact ⟨.tuples l1 l2 hu' he,.tuples l1 l2 hu' he,.of_refs hne (.tuples l1 l2 hu' he)⟩
theorem IA(x y:Int):(x == y)=decide (x=y):=by
 by_cases h:x=y
 ·subst h;rw[QR,Qo rfl]
 ·rw[beq_false_of_ne h,Qn h]
theorem OY{x y:List Nat}(h1:(x.all λn=>Nat.ble n 255)=true)(h2:(y.all λn=>Nat.ble n 255)=true):decide ((x.map Nat.toUInt8).toArray.toList=(y.map Nat.toUInt8).toArray.toList)=eqB x y:=by
 rw[Xc8]
 exact decide_eq_decide.mpr ⟨λh=>OZ h1 h2 (by simpa using h),λh=>by rw[h]⟩
theorem Eq3.bytes{b c:Array UInt8}{u:Tok}{r:Bool}(h:decide (b.toList=c.toList)=r):Eq3 A s (.bytes b t) (.bytes c u) r:=by
 have e1:(b.toList == c.toList)=r:=by rw[←h,Bool.eq_iff_iff];simp
 have e2:(b.toList != c.toList)= !r:=by show (!(b.toList == c.toList))=_;rw[e1]
 refine ⟨λprog w E Q q=>eq_bytes ?_,λprog w E Q q=>ne_bytes ?_,λprog w E Q q=>eqBool_bytes ?_⟩
 ·rw[e1];exact q
 ·rw[e2];exact q
 ·rw[h];exact q
theorem Xaa(H:Xm C.ρ F){q:Nat->Nat->Option Bool}
  (hq:∀i j r a b,q i j=some r->Ro[i]?=some a->Ro[j]?=some b->Eq3 A s (.ref a) (.ref b) r){x y:Rm}{r:Bool}(e:Xdc F q u v=some r)(hu:VR C.ρ Ro u x)(hv:VR C.ρ Ro v y):Eq3 A s x y r:=by
 induction hu with
 |none=>
  induction hv with
  |none=>obtain rfl:=QV e;exact ⟨.none_none,.none_none,.same _⟩
  |int _ z t _=>obtain rfl:=QV e;exact ⟨.none_int _ _,.none_int _ _,.none_int _ _⟩
  |str _ z t _=>obtain rfl:=QV e;exact ⟨.none_str _ _,.none_str _ _,.none_str _ _⟩
  |bool _=>exact Xx e
  |bytes _ _ _=>exact Xx e
  |ref _ _ _=>exact Xx e
  |fn _=>exact Xx e
  |cls _=>exact Xx e
  |cond _ _ _=>exact Xx e
 |bool b=>
  induction hv with
  |bool c=>obtain rfl:=QV e;exact ⟨.bool_bool _ _,.bool_bool _ _,.bool_bool _ _⟩
  |none=>exact Xx e
  |int _ z t _=>exact Xx e
  |str _ z t _=>exact Xx e
  |bytes _ _ _=>exact Xx e
  |ref _ _ _=>exact Xx e
  |fn _=>exact Xx e
  |cls _=>exact Xx e
  |cond _ _ _=>exact Xx e
 |int i z t h1=>
  induction hv with
  |int j z' t' h2=>
   have hr:r=(z == z'):=by rw[Xh3 H (show eqL F i j=some r from e),h1,h2,IA]
   subst hr
   exact ⟨.int_int _ _ _ _,.int_int _ _ _ _,.int_int _ _ _ _⟩
  |none=>obtain rfl:=QV e;exact ⟨.int_none _ _,.int_none _ _,.int_none _ _⟩
  |bool _=>exact Xx e
  |str _ z t _=>exact Xx e
  |bytes _ _ _=>exact Xx e
  |ref _ _ _=>exact Xx e
  |fn _=>exact Xx e
  |cls _=>exact Xx e
  |cond _ _ _=>exact Xx e
 |str k x t h1=>
  induction hv with
  |str k' x' t' h2=>
   have hr:r=(x == x'):=by rw[Xcg h1 h2];exact (QV (show some (Nat.beq k k')=some r from e)).symm
   subst hr
   exact ⟨.str_str _ _ _ _,.str_str _ _ _ _,.str_str _ _ _ _⟩
  |none=>obtain rfl:=QV e;exact ⟨.str_none _ _,.str_none _ _,.str_none _ _⟩
  |bool _=>exact Xx e
  |int _ z t _=>exact Xx e
  |bytes _ _ _=>exact Xx e
  |ref _ _ _=>exact Xx e
  |fn _=>exact Xx e
  |cls _=>exact Xx e
  |cond _ _ _=>exact Xx e
 |bytes b t h1=>
  induction hv with
  |bytes c t' h2=>
   obtain rfl:=QV e
   exact .bytes (OY h1 h2)
  |none=>exact Xx e
  |bool _=>exact Xx e
  |int _ z t _=>exact Xx e
  |str _ z t _=>exact Xx e
  |ref _ _ _=>exact Xx e
  |fn _=>exact Xx e
  |cls _=>exact Xx e
  |cond _ _ _=>exact Xx e
 |ref i a h1=>
  induction hv with
  |ref j b h2=>exact hq i j r a b e h1 h2
  |none=>exact Xx e
  |bool _=>exact Xx e
  |int _ z t _=>exact Xx e
  |str _ z t _=>exact Xx e
  |bytes _ _ _=>exact Xx e
  |fn _=>exact Xx e
  |cls _=>exact Xx e
  |cond _ _ _=>exact Xx e
 |fn a=>exact Xx e
 |cls a=>exact Xx e
 |cond _ _ _=>exact Xx e
theorem MJ(H:Xm C.ρ F)(R:Rp C Ro Rq σ s.heap):∀(f N:Nat),N + f < 9890->∀A:Around,A.units<=N->∀u v r x y,eqV F σ f u v=some r->VR C.ρ Ro u x->VR C.ρ Ro v y->Eq3 A s x y r:=by
 intro ux
 induction ux with
 |zero=>
  intro N hN A hu u v r x y e h1 h2
  exact Xaa H (λi j r a b h=>by exact Xx h) e h1 h2
 |succ f ih=>
  intro N hN A hu u v r x y e h1 h2
  refine Xaa H (λi j r a b h ha hb=>?_) (show Xdc F _ u v=some r from e) h1 h2
  by_cases hij:i=j
  ·subst hij;rw[QI] at h;exact Xx h
  ·rw[Yl hij] at h
   exact XkB H (N:=N) (by lia) (λA' hA' a b r x y=>ih (N + 1) (by lia) A' hA' a b r x y) R hu ha hb hij h
theorem YR{b:Bool}{x y z:α}(h:bc b x y=z)(hn:y≠z):b=true/\x=z:=by
 induction b with
 |true=>exact ⟨rfl,h⟩
 |false=>exact absurd h hn
theorem Y6:∀l:List α,Uy l=l.length
 | []=>rfl
 |_::r=>congrArg (· + 1) (Y6 r)
theorem Yc{l:List α}(h:XU l=true):l.length<=60000:=by
 have:=Qv h
 rwa [Y6] at this
set_option tactic.hygienic true in
theorem Nw(R:Rp C Ro Rq σ s.heap)(hA:A.units < cLine){x:Rm}{b:Bool}(e:Id σ v=some b)(h:VR C.ρ Ro v x){Q:Bool->Rk->Prop}
  (hq:∀t,Q b {s with toks:=t}):wpAny (model C.prog C.w) A (truthy x) Q E s:=by
 have hq0:Q b s:=hq s.toks
 induction h with
 |none=>obtain rfl:=QV e;exact truthy_none hq0
 |bool c=>obtain rfl:=QV e;exact wpAny_truthy_bool hq0
 |int i z t h1=>
  replace e:(i.lit?.map λc=> !(zz c))=some b:=e
  induction hl:i.lit? with
  |none=>rw[hl] at e;exact Xx e
  |some c=>
   rw[hl] at e
   obtain rfl:=QV e
   have hz:z=c:=by rw[←h1,XH hl]
   refine PyProof.Rows.truthy_int ?_
   have:(z != 0)= !(zz c):=by rw[hz,Xfu];show (!(c == 0))=_;rw[IA]
   rw[this];exact hq0
 |str _ _ _ _=>exact Xx e
 |bytes c t h1=>
  refine Wg (show bc (XU c) (some (Wy c)) none=some b from e) λhl e=>?_
  have:=Yc hl
  have hs:(KBw.bInts (c.map Nat.toUInt8).toArray).length=c.length:=by rw[KBw.ints_length];simp
  refine KBw.truthy_K rfl (by lia) ?_
  have:decide (0 < (KBw.bInts (c.map Nat.toUInt8).toArray).length)=b:=by
   rw[hs]
   induction c with
   |nil=>obtain rfl:=QV e;rfl
   |cons _ _=>obtain rfl:=QV e;rfl
  rw[this]
  exact hq _
 |ref i a h1=>
  replace e:Xfb (σ.get i)=some b:=e
  induction q:σ.get i with
  |none=>rw[q] at e;exact Xx e
  |some o=>
   rw[q] at e
   refine YO (R.obj i _ q) λa' f1 f2 f3=>?_
   rw[h1] at f1;obtain rfl:=QV f1
   refine Zx λ_ kk=>?_
   induction o<;>first |exact Xx e |(refine kk ?_;clear kk)
   ·rename_i l
    refine Y5 f3 λvs n1 h1 h2=>?_
    refine Wg (show bc (XU l) (some (Wy l)) none=some b from e) λhl e=>?_
    have:=Yc hl
    have hs:=h2.length
    refine wpAny_truthy_list ⟨_,h1,rfl,n1,rfl⟩ (by rw[Qx];lia) ?_
    have:(!vs.toArray.isEmpty)=b:=by
     cases h2<;>cases e<;>rfl
    rw[this]
    exact hq _
   ·rename_i l
    refine Y5 f3 λvs n1 h1 h2=>?_
    refine Wg (show bc (XU l) (some (Wy l)) none=some b from e) λhl e=>?_
    have:=Yc hl
    have hs:=h2.length
    refine truthy_tuple ⟨_,h1,rfl,n1,rfl⟩ (by rw[Qx];lia) ?_
    have:(!vs.toArray.isEmpty)=b:=by
     cases h2<;>cases e<;>rfl
    rw[this]
    exact hq _
 |fn _=>exact Xx e
 |cls _=>exact Xx e
 |cond _ _ _=>exact Xx e
noncomputable def Xbe:CmpOp->Option Nat
 | .Eq=>some 0
 | .NotEq=>some 1
 | .Lt=>some 2
 | .LtE=>some 3
 | .Gt=>some 4
 | .GtE=>some 5
 | .Is=>some 6
 | .IsNot=>some 7
 | .In=>some 8
 |_=>none
theorem Xlj(H:Xm C.ρ k.F){op:CmpOp}{o:Nat}(ho:Xbe op=some o)(h2:2<=o)(h5:o<=5){x y:LI}{z z':Int}{t':Tok}{b:Bool}(hx:x.val C.ρ=z)(hy:y.val C.ρ=z')(e:Xli k.F o x y=some b)
  (hq:Q (.bool b) s):wpAny (model C.prog C.w) A (compareOp op (.int z t) (.int z' t')) Q E s:=by
 cases op<;>cases ho<;>first |(exfalso;lia) |skip
 ·refine PyProof.Rows.lt_int ?_
  rw[←hx,←hy,←N5 H (show Ow k.F x y=some b from e)];exact hq
 ·refine PySem.P.le_int ?_
  rw[←hx,←hy,←Db H (show JP k.F x y=some b from e)];exact hq
 ·refine PyProof.Rows.gt_int ?_
  rw[←hx,←hy,←N5 H (show Ow k.F y x=some b from e)];exact hq
 ·refine PySem.P.ge_int ?_
  rw[←hx,←hy]
  have:=Db H (show JP k.F y x=some b from e)
  show Q (.bool (decide (LI.val C.ρ y<=LI.val C.ρ x))) s
  rw[←this];exact hq
theorem Jc{x:Rm}(h:VR C.ρ Ro v x):Z1 v=(x == .none):=by
 induction h<;>rfl
def Xfw(C:Cx)(F:XA):Prop:=∀(A:Around),A.units < 9800->∀Ro Rq σ s u v x y b,inV F σ u v=some b->Rp C Ro Rq σ s.heap->VR C.ρ Ro u x->VR C.ρ Ro v y->∀(Q:Rm->Rk->Prop)(E:Rm->Rk->Prop),(∀t,Q (.bool b) {s with toks:=t})->wpAny (model C.prog C.w) A (compareOp .In x y) Q E s
theorem Xc0(H:Xm C.ρ k.F)(HI:Xfw C k.F)(g:YK A n){Ro Rq σ s op o u v x y b}(ho:Xbe op=some o)(R:Rp C Ro Rq σ s.heap)(hu:VR C.ρ Ro u x)(hv:VR C.ρ Ro v y)(e:Ux k.F o σ u v=some b)
  (hq:∀t,Q (.bool b) {s with toks:=t}):wpAny (model C.prog C.w) A (compareOp op x y) Q E s:=by
 have hq0:Q (.bool b) s:=hq s.toks
 have hA:A.units<=9000:=by have:=g.2.2.1;lia
 have ord:2<=o->o<=5->(oc (Zl u) none λx=>oc (Zl v) none λy=>Xli k.F o x y)=some b->wpAny (model C.prog C.w) A (compareOp op x y) Q E s:=λh2 h5 e=>by
  refine Z8 e λx' e1 e2=>?_
  refine Z8 e2 λy' e3 e4=>?_
  refine O8 e1 hu λz t hx=>O8 e3 hv λz' t' hy=>?_
  exact Xlj H ho h2 h5 hx hy e4 hq0
 cases op<;>cases ho
 ·exact EqBoolInt.of_rc (MJ H R 2 9000 (by lia) A hA _ _ _ _ _ (show eqV k.F σ 2 u v=some b from e) hu hv).rc hq0
 ·induction q:eqV k.F σ 2 u v with
  |none=>rw[show Ux k.F 1 σ u v=(eqV k.F σ 2 u v).map (!·) from rfl,q] at e;cases e
  |some r=>
   rw[show Ux k.F 1 σ u v=(eqV k.F σ 2 u v).map (!·) from rfl,q] at e
   obtain rfl:=QV e
   exact EqBoolInt.of_rcne (MJ H R 2 9000 (by lia) A hA _ _ _ _ _ q hu hv).ne hq0
 ·exact ord (by lia) (by lia) e
 ·exact ord (by lia) (by lia) e
 ·exact ord (by lia) (by lia) e
 ·exact ord (by lia) (by lia) e
 ·refine Wg (show bc (Z1 v) (some (Z1 u)) none=some b from e) λh1 h2=>?_
  rw[Jc hv] at h1
  have:=eq_of_beq h1
  subst this
  obtain rfl:=QV h2
  rw[Jc hu] at hq0
  refine wpAny_is_plain ?_ hq0
  induction hu<;>rfl
 ·refine Wg (show bc (Z1 v) (some (!(Z1 u))) none=some b from e) λh1 h2=>?_
  rw[Jc hv] at h1
  have:=eq_of_beq h1
  subst this
  obtain rfl:=QV h2
  rw[Jc hu] at hq0
  refine wpAny_isNot_plain ?_ hq0
  induction hu<;>rfl
 ·exact HI A (by lia) Ro Rq σ s u v x y b e R hu hv Q E hq
theorem XvH(H:Xm C.ρ k.F)(HI:Xfw C k.F){f:Expr}{op:CmpOp}{o:Nat}(ho:Xbe op=some o)(hx:SE C n L k x (eval e env))(hy:SE C n L k y (eval f env))(hm:behindInMarks op f=false):
  SE C n L k (YQ o x y) (eval (.Compare e [op] [f] pos) env):=by
 intro A g Ro Rq σ l s m v σ' T e' Q E h
 refine Js e' λu σ1 e1 e2=>?_
 refine Js e2 λu' σ2 e3 e4=>?_
 refine wpAny_Compare1 (hx A g _ _ _ _ _ _ _ _ T e1 _ _ λh1 t1 Ru Rv m1 v1 G1 T1 R1=>?_) hm
 refine hy A g _ _ _ _ {s with heap:=h1,toks:=t1} _ _ _ T1 e3 _ _ λh2 t2 Rz RA m2 v2 G2 T2 R2=>?_
 replace e4: @Option.rec Bool (λ_=>Xu) (B9 k.F o σ2 u u') (λb=> .ok (.bool b) σ2) (Ux k.F o σ2 u u')= .ok v σ':=e4
 induction q:Ux k.F o σ2 u u' with
 |some b=>
  rw[q] at e4
  replace h:=h.eq e4
  exact Xc0 (s:={s with heap:=h2,toks:=t2}) H HI g ho T2.rp (R1.mono G2.pre) R2 q λt=>h h2 t Rz RA m2 _ (G1.trans G2) T2 (.bool b)
 |none=>
  rw[q] at e4
  replace e4:B9 k.F o σ2 u u'= .ok v σ':=e4
  unfold B9 at e4
  split at e4
  ·refine WA e4 λx' e5 e6=>?_
   refine WA e6 λy' e7 e8=>?_
   refine WA e8 λc e9 e10=>?_
   obtain ⟨rfl,e11⟩:=YR e10 nofun
   replace h:=h.eq e11
   have hn:=Qt (JY H e9).symm
   rw[JI] at hn
   refine O8 e5 R1 λz t hx=>O8 e7 R2 λz' t' hy=>?_
   have hop:op= .Eq:=by cases op<;>first |rfl |cases ho
   subst hop
   have e12:decide (0<=(y'.sub x').val C.ρ)=(z == z'):=by
    rw[JI,IA]
    exact decide_eq_decide.mpr (by lia)
   refine EqBoolInt.of_rc (.int_int _ _ _ _) ?_
   exact h h2 t2 Rz RA m2 _ (G1.trans G2) T2 (.cond _ _ e12)
  ·exact Y3 e4
theorem XeM(H:Xm C.ρ k.F)(HI:Xfw C k.F){f:Expr}{op:CmpOp}{o:Nat}(ho:Xbe op=some o)(hx:SE C n L k x (eval e env))(hy:SE C n L k y (eval f env))(hm:behindInMarks op f=false):
  SB C n L k (Xp o x y) (isTrue (.Compare e [op] [f] pos) env w):=by
 intro A g Ro Rq σ l s m v σ' T e' Q E h
 refine Xmt e' λu σ1 e1 e2=>?_
 refine Xmt e2 λu' σ2 e3 e4=>?_
 induction e5:Ux k.F o σ2 u u' with
 |none=>rw[show NV (Ux k.F o σ2 u u') σ2=NV none σ2 by rw[e5]] at e4;exact bno e4
 |some b=>
  rw[show NV (Ux k.F o σ2 u u') σ2=NV (some b) σ2 by rw[e5]] at e4
  replace h:=h.eq e4
  refine wpAny_isTrue_Compare1 (hx A g _ _ _ _ _ _ _ _ T e1 _ _ λh1 t1 Ru Rv m1 v1 G1 T1 R1=>?_) hm
  refine hy A g _ _ _ _ {s with heap:=h1,toks:=t1} _ _ _ T1 e3 _ _ λh2 t2 Rz RA m2 v2 G2 T2 R2=>?_
  exact Xc0 (s:={s with heap:=h2,toks:=t2}) H HI g ho T2.rp (R1.mono G2.pre) R2 e5 λt=>wpAny_truthy_bool (h h2 t Rz RA m2 (G1.trans G2) T2)
theorem qtV(hx:SE C n L k x (eval e env))(hp:∀Q E A s,wpAny (model C.prog C.w) A (eval e env) (λv s₁=>wpAny (model C.prog C.w) A (truthy v) Q E s₁) E s->wpAny (model C.prog C.w) A (isTrue e env (eval e env)) Q E s):
  SB C n L k (tV x) (isTrue e env (eval e env)):=by
 intro A g Ro Rq σ l s m v σ' T e' Q E h
 refine Xmt e' λu σ1 e1 e2=>?_
 induction e3:Id σ1 u with
 |none=>rw[show NV (Id σ1 u) σ1=NV none σ1 by rw[e3]] at e2;exact bno e2
 |some b=>
  rw[show NV (Id σ1 u) σ1=NV (some b) σ1 by rw[e3]] at e2
  replace h:=h.eq e2
  refine hp Q E A s (hx A g _ _ _ _ _ _ _ _ T e1 _ _ λh1 t1 Ru Rv m1 v1 G1 T1 R1=>?_)
  exact Nw (s:={s with heap:=h1,toks:=t1}) T1.rp g.units e3 R1 λt=>h h1 t Ru Rv m1 G1 T1
theorem XpF{x:MB}(hx:SB C n L k x (isTrue e env (eval e env))):SB C n L k (Ur x) (isTrue (.UnaryOp .Not e pos) env w):=by
 intro A g Ro Rq σ l s m v σ' T e' Q E h
 refine XhD e' λu σ1 e1 e2=>?_
 replace h:=h.eq e2
 exact isTrue_not (hx A g _ _ _ _ _ _ _ _ T e1 _ _ λh1 t1 Ru Rv m1 G1 T1=>h h1 t1 Ru Rv m1 G1 T1)
theorem XvK{t:MB}{f c:Expr}(ht:SB C n L k t (isTrue c env (eval c env)))(hx:SE C n L k x (eval e env))(hy:SE C n L k y (eval f env)):SE C n L k (Jt t x y) (eval (.IfExp c e f pos) env):=by
 intro A g Ro Rq σ l s m v σ' T e' Q E h
 refine Xv5 e' λb σ1 e1 e2=>?_
 refine IfExp_ (ht A g _ _ _ _ _ _ _ _ T e1 _ _ λh1 t1 Ru Rv m1 G1 T1=>?_)
 induction b with
 |true=>exact hx A g _ _ _ _ {s with heap:=h1,toks:=t1} _ _ _ T1 e2 _ _ (h.step G1)
 |false=>exact hy A g _ _ _ _ {s with heap:=h1,toks:=t1} _ _ _ T1 e2 _ _ (h.step G1)
theorem XvN(hx:SE C n L k x (eval e env)):SE C n L k (Ba x) (eval (.UnaryOp .Not e pos) env):=by
 intro A g Ro Rq σ l s m v σ' T e' Q E h
 refine Js e' λu σ1 e1 e2=>?_
 refine WA e2 λb e3 e4=>?_
 replace h:=h.eq e4
 refine UnaryOp_ (hx A g _ _ _ _ _ _ _ _ T e1 _ _ λh1 t1 Ru Rv m1 v1 G1 T1 R1=>not_of ?_)
 exact Nw (s:={s with heap:=h1,toks:=t1}) T1.rp g.units e3 R1 λt=>h h1 t Ru Rv m1 _ G1 T1 (.bool _)
theorem JS(F:Fr H0 L h m):H0.objs.size<=h.objs.size:=by
 refine x32 F.ns λoL _ _ hl _=>?_
 exact QH F.above (Nat.le_of_lt (Qu hl))
theorem N4(F:Fr H0 L h m):∃o,h.get? L=some o:=by
 refine x32 F.ns λoL _ _ hl _=>?_
 exact ⟨_,hl⟩
theorem At.new{ob:Obj}(T:At C L Ro Rq σ l h m)(F':Fr C.H0 L h' m)(N':News C.H0 L h' ((h.objs.size,ob)::WN C.H0 L h))
  (ho:∀Rt,h'.get? h.objs.size=some ob->OR C.ρ (Ro++[h.objs.size]) Rt h' σ.n h.objs.size o):
  ∃Rt,XJ (·=L) Ro Rq h (Ro++[h.objs.size]) Rt h'/\At C L (Ro++[h.objs.size]) Rt ⟨σ.h.set o σ.n,σ.n + 1⟩ l h' m/\(Ro++[h.objs.size])[σ.n]?=some h.objs.size:=by
 have hk:=M1 (x:=[(h.objs.size,ob)]) T.fr F' N'
 have hob:h'.get? h.objs.size=some ob:=(N' _ Ql).1
 have hL:L≠h.objs.size:=by
  obtain ⟨o,e⟩:=N4 T.fr
  exact Qz (Qu e)
 have h0:C.H0.get? h.objs.size=none:=(N' _ Ql).2.2
 have G:XJ (·=L) Ro Rq h (Ro++[h.objs.size]) (λb=>if b=h.objs.size then some σ.n else Rq b) h':=⟨Qr _ _,λb o e=>if_neg (Qz (Qu e)),λb o e _ hb=>hk b o e hb,λb o e=>by
  by_cases hb:b=L
  ·subst hb;exact N4 F'
  ·exact ⟨o,hk b o e hb⟩⟩
 exact ⟨_,G,⟨T.rp.new (Ye h) h0 (λb o hb e=>hk b o e (λe'=>hb (e'▸T.ownL))) F'.keep (JS F') (ho _ hob),F',(if_neg hL).trans T.ownL,T.lr.mono (Qr _ _),T.cel.gone G⟩,by rw[←T.rp.len];exact QU⟩
theorem At.put{o0 o':Obj}{x:O}(T:At C L Ro Rq σ l h m)(hi:Ro[i]?=some a)(ha:Rq a=some i)(e0:h.get? a=some o0)
  (F':Fr C.H0 L h' m)(N':News C.H0 L h' (Xb8 C.H0 L h a o'))(ho:h'.get? a=some o'->OR C.ρ Ro Rq h' i a x):XJ (·=L) Ro Rq h Ro Rq h'/\At C L Ro Rq (σ.put i x) l h' m:=by
 have hk:=Xbs T.fr F' N'
 have hL:a≠L:=by rintro rfl;rw[T.ownL] at ha;cases ha
 have h0:C.H0.get? a=none:=by
  induction q:C.H0.get? a with
  |none=>rfl
  |some o=>rw[T.rp.old a o q] at ha;exact Xx ha
 have hob:=XgE N' e0 hL h0
 have hlive:∀b o,h.get? b=some o->∃o',h'.get? b=some o':=λb o e=>by
  by_cases hb:b=L
  ·subst hb;exact N4 F'
  ·by_cases hba:b=a
   ·subst hba;exact ⟨_,hob⟩
   ·exact ⟨o,hk b o e hb hba⟩
 have G:XJ (·=L) Ro Rq h Ro Rq h':=⟨Qy,λ_ _ _=>rfl,λb o e hn hb=>hk b o e hb (by rintro rfl;rw[hn] at ha;cases ha),hlive⟩
 exact ⟨G,⟨T.rp.put hi ha (λb o hb hba e=>hk b o e (λe'=>hb (e'▸T.ownL)) hba) F'.keep (JS F') hlive (ho hob),F',T.ownL,T.lr,T.cel.gone G⟩⟩
theorem At.still{m':Str->Option Rm}(T:At C L Ro Rq σ l h m)(F':Fr C.H0 L h' m')(N':News C.H0 L h' (WN C.H0 L h))(lr:LR C Ro l' m'):
  XJ (·=L) Ro Rq h Ro Rq h'/\At C L Ro Rq σ l' h' m':=by
 have hkp:=Km T.fr F' N'
 have G:XJ (·=L) Ro Rq h Ro Rq h':=⟨Qy,λ_ _ _=>rfl,λb o e _ hb=>hkp b o e hb,λb o e=>by
  by_cases hb:b=L
  ·subst hb;exact N4 F'
  ·exact ⟨o,hkp b o e hb⟩⟩
 refine ⟨G,⟨T.rp.len,T.rp.old,F'.keep,JS F',λj o e=>?_⟩,F',T.ownL,lr,T.cel.gone G⟩
 refine YO (T.rp.obj j o e) λa h1 h2 h3=>?_
 exact ⟨a,h1,h2,h3.mono h2 Qy (λb o hb e=>hkp b o e (λe'=>by rw[e',T.ownL] at hb;cases hb)) λ_ _=>rfl⟩
theorem Xmy{Ro Rq σ l s m us vs v σ'}(T:At C L Ro Rq σ l s.heap m)(R:YH C.ρ Ro us vs)(e:Xor σ us= .ok v σ')(h:PE C L Ro Rq s.heap σ' l v Q s):wpAny (model C.prog C.w) A (newTuple vs) Q E s:=by
 refine Ny (show bc (XU us) (UU σ (.tup us)) .no= .ok v σ' from e) λh1 e=>?_
 have:=Yc h1
 have:=R.length
 replace h:=h.eq e
 refine newTuple_N T.fr (XO _ _ _) (λh' F' N'=>?_) (by show vs.length<=sizeLine;unfold sizeLine;lia)
 refine YO (At.new T F' N' (o:= .tup us) λRt e=>⟨vs,0,e,R.mono (Qr _ _)⟩) λRt G T' hn=>?_
 exact h h' s.toks _ Rt m _ G T' (.ref _ _ hn)
theorem XgV{Ro Rq σ l s m us vs v σ'}(T:At C L Ro Rq σ l s.heap m)(R:YH C.ρ Ro us vs)(e:Nd σ us= .ok v σ')(h:PE C L Ro Rq s.heap σ' l v Q s):wpAny (model C.prog C.w) A (newList vs) Q E s:=by
 refine Ny (show bc (XU us) (UU σ (.list us)) .no= .ok v σ' from e) λh1 e=>?_
 have:=Yc h1
 have:=R.length
 replace h:=h.eq e
 refine newList_N T.fr (XO _ _ _) (λh' F' N'=>?_) (by show vs.length<=sizeLine;unfold sizeLine;lia)
 refine YO (At.new T F' N' (o:= .list us) λRt e=>⟨vs,0,e,R.mono (Qr _ _)⟩) λRt G T' hn=>?_
 exact h h' s.toks _ Rt m _ G T' (.ref _ _ hn)
theorem XvQ{y:ML}(hy:SL C n L k y (spliced (backTo pos (starEach es env)))):SE C n L k (Yg y) (eval (.Tuple es kk pos) env):=by
 intro A g Ro Rq σ l s m v σ' T e' Q E h
 refine Ir e' λus σ1 e1 e2=>?_
 exact Tuple_ (hy A g _ _ _ _ _ _ _ _ T e1 _ _ λh1 t1 Ru Rv m1 v1 G1 T1 R1=>Xmy (s:={s with heap:=h1,toks:=t1}) T1 R1 e2 (h.step G1))
theorem XvL{y:ML}(hy:SL C n L k y (spliced (backTo pos (starEach es env)))):SE C n L k (Yx y) (eval (.List es pos) env):=by
 intro A g Ro Rq σ l s m v σ' T e' Q E h
 refine Ir e' λus σ1 e1 e2=>?_
 exact List_ (hy A g _ _ _ _ _ _ _ _ T e1 _ _ λh1 t1 Ru Rv m1 v1 G1 T1 R1=>XgV (s:={s with heap:=h1,toks:=t1}) T1 R1 e2 (h.step G1))
theorem Xpt{op:PySem.BoolOp}(hx:SE C n L k x (eval e env)):SE C n L k x (eval (.BoolOp op [e] pos) env):=λA g Ro Rq σ l s m v σ' T e' Q E h=>BoolOp_one (hx A g Ro Rq σ l s m v σ' T e' Q E h)
theorem XvG{f:Expr}(hx:SE C n L k x (eval e env))(hy:SE C n L k y (eval (.BoolOp .And (f::r) pos) env)):SE C n L k (Uz x y) (eval (.BoolOp .And (e::f::r) pos) env):=by
 intro A g Ro Rq σ l s m v σ' T e' Q E h
 refine Js e' λu σ1 e1 e2=>?_
 refine WA e2 λb e3 e4=>?_
 refine BoolOp_and (hx A g _ _ _ _ _ _ _ _ T e1 _ _ λh1 t1 Ru Rv m1 v1 G1 T1 R1=>?_)
 refine Nw (s:={s with heap:=h1,toks:=t1}) T1.rp g.units e3 R1 λt=>?_
 induction b with
 |true=>exact hy A g _ _ _ _ {s with heap:=h1,toks:=t} _ _ _ T1 e4 _ _ (h.step G1)
 |false=>replace h:=h.eq e4;exact h h1 t Ru Rv m1 _ G1 T1 R1
theorem qOr{f:Expr}(hx:SE C n L k x (eval e env))(hy:SE C n L k y (eval (.BoolOp .Or (f::r) pos) env)):SE C n L k (mOr x y) (eval (.BoolOp .Or (e::f::r) pos) env):=by
 intro A g Ro Rq σ l s m v σ' T e' Q E h
 refine Js e' λu σ1 e1 e2=>?_
 refine WA e2 λb e3 e4=>?_
 refine BoolOp_or (hx A g _ _ _ _ _ _ _ _ T e1 _ _ λh1 t1 Ru Rv m1 v1 G1 T1 R1=>?_)
 refine Nw (s:={s with heap:=h1,toks:=t1}) T1.rp g.units e3 R1 λt=>?_
 induction b with
 |true=>replace h:=h.eq e4;exact h h1 t Ru Rv m1 _ G1 T1 R1
 |false=>exact hy A g _ _ _ _ {s with heap:=h1,toks:=t} _ _ _ T1 e4 _ _ (h.step G1)
theorem XlE{x:MB}(hx:SB C n L k x (isTrue e env (eval e env))):SB C n L k x (isTrue (.BoolOp .And [e] pos) env w):=by
 intro A g Ro Rq σ l s m v σ' T e' Q E h
 refine isTrue_and (hx A g _ _ _ _ _ _ _ _ T e' _ _ λh1 t1 Ru Rv m1 G1 T1=>?_)
 induction v with
 |true=>exact isTrue_and_nil (h h1 t1 Ru Rv m1 G1 T1)
 |false=>exact h h1 t1 Ru Rv m1 G1 T1
theorem XpG{x:MB}(hx:SB C n L k x (isTrue e env (eval e env))):SB C n L k x (isTrue (.BoolOp .Or [e] pos) env w):=by
 intro A g Ro Rq σ l s m v σ' T e' Q E h
 refine isTrue_or (hx A g _ _ _ _ _ _ _ _ T e' _ _ λh1 t1 Ru Rv m1 G1 T1=>?_)
 induction v with
 |true=>exact h h1 t1 Ru Rv m1 G1 T1
 |false=>exact isTrue_or_nil (h h1 t1 Ru Rv m1 G1 T1)
theorem XpD{x y:MB}{f:Expr}(hx:SB C n L k x (isTrue e env (eval e env)))(hy:SB C n L k y (isTrue (.BoolOp .And (f::r) pos) env w)):SB C n L k (Op x y) (isTrue (.BoolOp .And (e::f::r) pos) env w):=by
 intro A g Ro Rq σ l s m v σ' T e' Q E h
 refine XhD e' λb σ1 e1 e2=>?_
 refine isTrue_and (hx A g _ _ _ _ _ _ _ _ T e1 _ _ λh1 t1 Ru Rv m1 G1 T1=>?_)
 induction b with
 |true=>exact hy A g _ _ _ _ {s with heap:=h1,toks:=t1} _ _ _ T1 e2 _ _ (h.step G1)
 |false=>replace h:=h.eq e2;exact h h1 t1 Ru Rv m1 G1 T1
theorem XvS{x y:MB}{f:Expr}(hx:SB C n L k x (isTrue e env (eval e env)))(hy:SB C n L k y (isTrue (.BoolOp .Or (f::r) pos) env w)):SB C n L k (Wf x y) (isTrue (.BoolOp .Or (e::f::r) pos) env w):=by
 intro A g Ro Rq σ l s m v σ' T e' Q E h
 refine XhD e' λb σ1 e1 e2=>?_
 refine isTrue_or (hx A g _ _ _ _ _ _ _ _ T e1 _ _ λh1 t1 Ru Rv m1 G1 T1=>?_)
 induction b with
 |true=>replace h:=h.eq e2;exact h h1 t1 Ru Rv m1 G1 T1
 |false=>exact hy A g _ _ _ _ {s with heap:=h1,toks:=t1} _ _ _ T1 e2 _ _ (h.step G1)
noncomputable def opN:Operator->Option Nat
 | .Add=>some 0
 | .Sub=>some 1
 | .Mult=>some 2
 | .FloorDiv=>some 3
 | .Mod=>some 4
 | .Pow=>some 5
 | .RShift=>some 6
 | .BitAnd=>some 7
 | .BitOr=>some 8
 |_=>none
theorem Dp{i:Int}(h:U2 i=true):i.natAbs < 1073741824:=by
 induction i with
 |ofNat n=>have:=Qv (show Nat.ble n 1073741823=true from h);show n < _;lia
 |negSucc n=>have:=Qv (show Nat.ble n 1073741822=true from h);show n + 1 < _;lia
theorem XbZ{i:Int}(h:Up i=true):i.natAbs < 4611686018427387904:=by
 induction i with
 |ofNat n=>have:=Qv (show Nat.ble n 4611686018427387903=true from h);exact Nat.lt_succ_of_le this
 |negSucc n=>have:=Qv (show Nat.ble n 4611686018427387902=true from h);exact Nat.succ_lt_succ (Nat.lt_succ_of_le this)
theorem Ia{i:Int}(h:Up i=true):Builtin.Int.intBits i<=64:=by
 have:=XbZ h
 exact PySem.intBits_le_64 (by lia) (by lia)
theorem KZ{i:Int}(h:U2 i=true):Builtin.Int.intBits i<=64:=by
 have:=Dp h
 exact PySem.intBits_le_64 (by lia) (by lia)
section
set_option tactic.hygienic true
theorem XfW{o:Nat}(ho:opN op=some o){x y:LI}{a b:Int}{u:Tok}(hx:x.val C.ρ=a)(hy:y.val C.ρ=b)(e:XcK o x y=some z)
  (hq:∀r t' t'',z.val C.ρ=r->Q (.int r t') {s with toks:=t''}):wpAny (model C.prog C.w) A (binaryOp op (.int a t) (.int b u)) Q E s:=by
 have lits:(oc x.lit? none λx=>oc y.lit? none λy=>Xd6 o x y)=some z->∃c d,x.lit?=some c/\y.lit?=some d/\Xd6 o c d=some z/\a=c/\b=d:=λe=>by
  refine YB (ZF e nofun) λc e1 e2=>?_
  refine YB (ZF e2 nofun) λd e3 e4=>?_
  exact ⟨c,d,e1,e3,e4,by rw[←hx,XH e1],by rw[←hy,XH e3]⟩
 have vl:∀c,(Xn c).val C.ρ=c:=Xs C.ρ
 cases op<;>cases ho
 ·refine Gw (lits e) λc d h1 h2 h3 zz1 zz2=>?_;subst zz1;subst zz2;cases h3
 ·refine Gw (lits e) λc d h1 h2 h3 zz3 zz4=>?_;subst zz3;subst zz4;cases h3
 ·replace e:XbI x y=some z:=e
  unfold XbI at e
  split at e
  ·rename_i c hc
   obtain ⟨h1,h2⟩:=YR e nofun
   obtain rfl:=QV h2
   have ha:a=c:=by rw[←hx,XH hc]
   exact PyProof.Rows.mul_int (hq _ _ _ (by rw[U6,hy,ha])) (.of_left (by rw[ha];exact Ia h1))
  ·split at e
   ·rename_i c hc
    obtain ⟨h1,h2⟩:=YR e nofun
    obtain rfl:=QV h2
    have hb:b=c:=by rw[←hy,XH hc]
    exact PyProof.Rows.mul_int (hq _ _ _ (by rw[U6,hx,hb,Int.mul_comm])) (.of_right (by rw[hb];exact Ia h1))
   ·cases e
 ·refine Gw (lits e) λc d h1 h2 h3 zz5 zz6=>?_;subst zz5;subst zz6
  obtain ⟨p1,p2⟩:=YR (show bc (nn (b - 1)) (some (Xn (Int.fmod a b))) none=some z from h3) nofun
  obtain rfl:=QV p2
  rw[Wj] at p1
  have:=Qt p1
  exact PyProof.Rows.mod_int (by lia) (hq _ _ _ (vl _))
 ·refine Gw (lits e) λc d h1 h2 h3 zz7 zz8=>?_;subst zz7;subst zz8
  replace h3:Xpn a b=some z:=h3
  induction b with
  |negSucc _=>exact Xx h3
  |ofNat m=>
   refine Wg h3 λhm h3=>Wg h3 λp1 p2=>?_
   obtain rfl:=QV p2
   have:=Qv hm
   have hb:=KZ p1
   refine PyProof.Rows.pow_int (Int.natCast_nonneg m) ?_ (hq _ _ _ (vl _))
   have h1:(Builtin.Int.intBits a:Int) * (m:Int)<=64 * 30:=Int.mul_le_mul (by lia) (by lia) (by lia) (by lia)
   show (Builtin.Int.intBits a:Int) * (m:Int)<=134217728
   lia
 ·refine Gw (lits e) λc d h1 h2 h3 zz9 zz10=>?_;subst zz9;subst zz10
  obtain ⟨p1,p2⟩:=YR (show bc (nn b) (some (Xn (Int.fdiv a (2 ^ b.toNat)))) none=some z from h3) nofun
  obtain rfl:=QV p2
  rw[Wj] at p1
  exact PyProof.Rows.rshift_int (Qt p1) (hq _ _ _ (vl _))
 ·refine Gw (lits e) λc d h1 h2 h3 zz11 zz12=>?_;subst zz11;subst zz12
  obtain rfl:=QV h3
  exact PyProof.Rows.or_int (hq _ _ _ (vl _))
 ·refine Gw (lits e) λc d h1 h2 h3 zz13 zz14=>?_;subst zz13;subst zz14
  obtain rfl:=QV h3
  exact PyProof.Rows.and_int (hq _ _ _ (vl _))
 ·refine Gw (lits e) λc d h1 h2 h3 zz15 zz16=>?_;subst zz15;subst zz16
  obtain ⟨p1,p2⟩:=YR (show bc (nn (b - 1)) (bc (U2 b) (some (Xn (Int.fdiv a b))) none) none=some z from h3) nofun
  obtain ⟨p3,p4⟩:=YR p2 nofun
  obtain rfl:=QV p4
  rw[Wj] at p1
  have:=Qt p1
  exact PyProof.Rows.floordiv_int (by lia) (hq _ _ _ (vl _)) (Or.inl (PyProof.noPylong_small (Dp p3)))
def Xcf(o:Nat)(a b r:Int):Prop:=∀(prog:Program)(w:World)(A:Around)(s:Rk)(op:Operator)(t u:Tok)(Q:Rm->Rk->Prop)(E:Rm->Rk->Prop),opN op=some o->(∀t' t'',Q (.int r t') {s with toks:=t''})->wpAny (model prog w) A (binaryOp op (.int a t) (.int b u)) Q E s
theorem Xcf.use{o:Nat}{a b r:Int}(h:Xcf o a b r){prog:Program}{w:World}{u:Tok}(ho:opN op=some o)(hq:∀t' t'',Q (.int r t') {s with toks:=t''}):wpAny (model prog w) A (binaryOp op (.int a t) (.int b u)) Q E s:=h prog w A s op t u Q E ho hq
def XS(ρ:Nat->Int)(G:Oz):Prop:=∀o x y z,(o,x,y,z)∈G->Xcf o (x.val ρ) (y.val ρ) (z.val ρ)
theorem Z0{a b:LI}(h:Wh a b=true):a=b:=by
 refine b2 h λh1 h2=>?_
 obtain ⟨c,t⟩:=a
 obtain ⟨d,u⟩:=b
 have e1:c=d:=Qt h1
 have e2:t=u:=MI h2
 rw[e1,e2]
theorem Xcr:∀{G:Oz}{o:Nat}{x y z:LI},WQ G o x y=some z->(o,x,y,z)∈G:=by
 intro ux
 induction ux with
 |nil=>
  intro _ _ _ _ h
  injection h
 |cons ua g ih=>
  obtain ⟨o,a,b,r⟩:=ua
  intro op x y z h
  replace h:bc (Nat.beq o op&&(Wh a x&&Wh b y)) (some r) (WQ g op x y)=some z:=h
  induction hq:(Nat.beq o op&&(Wh a x&&Wh b y)) with
  |true=>
   rw[hq] at h
   obtain rfl:=QV h
   refine b3 hq λh1 h3 h4=>?_
   rw[Qi h1,Z0 h3,Z0 h4]
   exact Ql
  |false=>rw[hq] at h;exact Qm _ (ih h)
set_option tactic.hygienic false
theorem Mu{x y:LI}:∀{o:Nat},ZD G o x y=some z->(o=0/\x.add y=z)∨(o=1/\x.sub y=z)∨(@Option.rec LI (λ_=>Option LI) (WQ G o x y) (λr=>some r) (XcK o x y))=some z
 | 0,h=> .inl ⟨rfl,QV h⟩
 | 1,h=> .inr (.inl ⟨rfl,QV h⟩)
 |n + 2,h=> .inr (.inr h)
theorem Xht{o:Nat}(HG:XS C.ρ k.G)(ho:opN op=some o){x y:LI}{u:Tok}(e:WQ k.G o x y=some z)
  (hq:∀t' t'',Q (.int (z.val C.ρ) t') {s with toks:=t''}):wpAny (model C.prog C.w) A (binaryOp op (.int (x.val C.ρ) t) (.int (y.val C.ρ) u)) Q E s:=(HG _ _ _ _ (Xcr e)).use ho hq
theorem XfV{o:Nat}(HG:XS C.ρ k.G)(ho:opN op=some o){x y:LI}{a b:Int}{u:Tok}(hx:x.val C.ρ=a)(hy:y.val C.ρ=b)(e: @Option.rec LI (λ_=>Option LI) (WQ k.G o x y) (λr=>some r) (XcK o x y)=some z)
  (hq:∀r t' t'',z.val C.ρ=r->Q (.int r t') {s with toks:=t''}):wpAny (model C.prog C.w) A (binaryOp op (.int a t) (.int b u)) Q E s:=by
 induction q:XcK o x y with
 |some r=>
  rw[q] at e
  obtain rfl:=QV e
  exact XfW ho hx hy q hq
 |none=>
  rw[q] at e
  subst hx hy
  exact Xht HG ho e λt' t''=>hq _ t' t'' rfl
theorem XfU{o:Nat}(HG:XS C.ρ k.G)(ho:opN op=some o){x y:LI}{a b:Int}{u:Tok}(hx:x.val C.ρ=a)(hy:y.val C.ρ=b)(e:ZD k.G o x y=some z)
  (hq:∀r t' t'',z.val C.ρ=r->Q (.int r t') {s with toks:=t''}):wpAny (model C.prog C.w) A (binaryOp op (.int a t) (.int b u)) Q E s:=by
 rcases Mu e with ⟨rfl,rfl⟩ |⟨rfl,rfl⟩ |e
 ·have hop:op= .Add:=by cases op<;>first |rfl |cases ho
  subst hop
  exact PyProof.Rows.add_int (hq _ _ _ (by rw[ZS,hx,hy]))
 ·have hop:op= .Sub:=by cases op<;>first |rfl |cases ho
  subst hop
  exact PyProof.Rows.sub_int (hq _ _ _ (by rw[JI,hx,hy]))
 ·exact XfV HG ho hx hy e hq
end
def PS(C:Cx)(L:Rn)(Ro:List Rn)(Rq:Rn->Option Nat)(h:Heap)(out:Zk)(Q:Flow->Rk->Prop)(s:Rk):Prop:=match out with
 | .no=>False
 | .next l' σ'=>∀h' n Rr Rt m',XJ (·=L) Ro Rq h Rr Rt h'->At C L Rr Rt σ' l' h' m'->Q .next {s with heap:=h',toks:=n}
 | .ret v σ'=>∀h' n Rr Rt m' l' val,XJ (·=L) Ro Rq h Rr Rt h'->At C L Rr Rt σ' l' h' m'->VR C.ρ Rr v val->Q (.ret val) {s with heap:=h',toks:=n}
def SS(C:Cx)(n:Nat)(L:Rn)(k:K)(x:MS)(t:Sem Flow):Prop:=
 ∀A,YK A n->∀Ro Rq σ l s m out,At C L Ro Rq σ l s.heap m->x k l σ=out->out≠ .no->∀Q E,PS C L Ro Rq s.heap out Q s->wpAny (model C.prog C.w) A t Q E s
def Wv(e:Expr):Bool:= !(isX 8 e||(isX 9 e||isX 10 e))
theorem PS.eq{o o':Zk}{Q:Flow->Rk->Prop}(e:o=o')(x:PS C L Ro Rq h o' Q s):PS C L Ro Rq h o Q s:=by rw[e];exact x
theorem J6{t:Option Expr}(h:Wv e=true):swapsWith e t line env=pure false:=by
 cases e<;>first |rfl |cases h
theorem Xu.of_toS{x:Xu}{k:V->St->Zk}(h:x.to .no k=out)(hn:out≠ .no):∃u s1,x= .ok u s1/\k u s1=out:=by
 induction x with
 |no=>exact absurd h.symm hn
 |ok u s1=>exact ⟨u,s1,rfl,h⟩
theorem ZI.of_toS{x:ZI}{k:Bool->St->Zk}(h:x.to .no k=out)(hn:out≠ .no):∃u s1,x= .ok u s1/\k u s1=out:=by
 induction x with
 |no=>exact absurd h.symm hn
 |ok u s1=>exact ⟨u,s1,rfl,h⟩
theorem PS.step{h1:Heap}{Q:Flow->Rk->Prop}{t:Nat}(x:PS C L Ro Rq h out Q s)(G:XJ (·=L) Ro Rq h Ru Rv h1):
  PS C L Ru Rv h1 out Q {s with heap:=h1,toks:=t}:=by
 induction out with
 |no=>exact x
 |next l' σ'=>exact λh' n Rr Rt m' G' T=>x h' n Rr Rt m' (G.trans G') T
 |ret v σ'=>exact λh' n Rr Rt m' l' val G' T R=>x h' n Rr Rt m' l' val (G.trans G') T R
theorem XeK:SS C n L k Xg (execs [] env):=by
 intro A g Ro Rq σ l s m out T e hn Q E h
 subst e
 exact wpAny_execs_nil (h _ _ _ _ _ .refl T)
theorem XeL{x y:MS}{a:Stmt}{r:List Stmt}(hx:SS C n L k x (exec a env))(hy:SS C n L k y (execs r env)):SS C n L k (Xd x y) (execs (a::r) env):=by
 intro A g Ro Rq σ l s m out T e hn Q E h
 replace e:(x k l σ).to (y k)=out:=e
 induction q:x k l σ with
 |no=>rw[q] at e;exact absurd e.symm hn
 |next l1 σ1=>
  rw[q] at e
  refine QQ (hx A g _ _ _ _ _ _ _ T q nofun _ _ λh1 t1 Ru Rv m1 G1 T1=>?_)
  exact hy A g _ _ _ _ {s with heap:=h1,toks:=t1} _ _ T1 e hn _ _ (h.step G1)
 |ret v σ1=>
  rw[q] at e
  subst e
  exact QQ (hx A g _ _ _ _ _ _ _ T q nofun _ _ λh1 t1 Ru Rv m1 l1 val G1 T1 R1=>h h1 t1 Ru Rv m1 l1 val G1 T1 R1)
theorem XjR(hx:SE C n L k x (eval e env)):SS C n L k (Xq x) (exec (.Return (some e) pos) env):=by
 intro A g Ro Rq σ l s m out T e' hn Q E h
 refine Y5 (Xu.of_toS e' hn) λu σ1 e1 e2=>?_
 subst e2
 exact wpAny_Return_some (hx A g _ _ _ _ _ _ _ _ T e1 _ _ λh1 t1 Ru Rv m1 v1 G1 T1 R1=>h h1 t1 Ru Rv m1 l v1 G1 T1 R1)
theorem XlD:SS C n L k XeY (exec (.Return none pos) env):=by
 intro A g Ro Rq σ l s m out T e' hn Q E h
 subst e'
 exact wpAny_Return_none (h _ _ _ _ _ _ _ .refl T .none)
theorem XvR(hx:SE C n L k x (eval e env))(hi:interactive env=false)(hc:Wv e=true):SS C n L k (Zb x) (exec (.Expr e pos) env):=by
 intro A g Ro Rq σ l s m out T e' hn Q E h
 refine Y5 (Xu.of_toS e' hn) λu σ1 e1 e2=>?_
 subst e2
 exact wpAny_Expr_any (hx A g _ _ _ _ _ _ _ _ T e1 _ _ λh1 t1 Ru Rv m1 v1 G1 T1 R1=>h h1 t1 Ru Rv m1 G1 T1) hi (J6 hc)
theorem XpB{t:MB}{x y:MS}{c:Expr}{a b:List Stmt}(ht:SB C n L k t (isTrue c env (eval c env)))(hx:SS C n L k x (execs a env))(hy:SS C n L k y (execs b env)):SS C n L k (Yn t x y) (exec (.If c a b pos) env):=by
 intro A g Ro Rq σ l s m out T e' hn Q E h
 refine Y5 (ZI.of_toS e' hn) λu σ1 e1 e2=>?_
 refine wpAny_If (ht A g _ _ _ _ _ _ _ _ T e1 _ _ λh1 t1 Ru Rv m1 G1 T1=>?_)
 induction u with
 |true=>exact hx A g _ _ _ _ {s with heap:=h1,toks:=t1} _ _ T1 e2 hn _ _ (h.step G1)
 |false=>exact hy A g _ _ _ _ {s with heap:=h1,toks:=t1} _ _ T1 e2 hn _ _ (h.step G1)
theorem J5(hE:ZC env L){Ro Rq σ l s m i x u y}(T:At C L Ro Rq σ l s.heap m)(hx:Zc[i]?=some x)(Ry:C.cellv.lookup x=none)(hl:env.kindOf x=some .local)(R:VR C.ρ Ro u y)
  {Q:Unit->Rk->Prop}(h:∀h' t m',XJ (·=L) Ro Rq s.heap Ro Rq h'->At C L Ro Rq σ (XM l i u) h' m'->Q () {s with heap:=h',toks:=t}):wpAny (model C.prog C.w) A (storeName env x y) Q E s:=by
 refine stE hE T.fr (XO _ _ _) (λh' F' N'=>?_) hl
 obtain ⟨G,T'⟩:=T.still F' N' (T.lr.set hx Ry R)
 exact h h' _ _ G T'
theorem XeJ(hE:ZC env L){x:Str}(hy:SE C n L k y (eval e env))(hx:Zc[i]?=some x)(Ry:C.cellv.lookup x=none)(hl:env.kindOf x=some .local)(hc:Wv e=true):
  SS C n L k (Xz i y) (exec (.Assign [.Name x p] e pos) env):=by
 intro A g Ro Rq σ l s m out T e' hn Q E h
 refine Y5 (Xu.of_toS e' hn) λu σ1 e1 e2=>?_
 subst e2
 refine wpAny_Assign_Name (hy A g _ _ _ _ _ _ _ _ T e1 _ _ λh1 t1 Ru Rv m1 v1 G1 T1 R1=>?_) (J6 hc)
 exact J5 (s:={s with heap:=h1,toks:=t1}) hE T1 hx Ry hl R1 λh2 t2 m2 G2 T2=>h h2 t2 Ru Rv m2 (G1.trans G2) T2
theorem Gz.put{l:List (Nat×V)}{es:List DictEntry}(F:Gz ρ Ro l es){x:Str}{y:Rm}{hs:Int}(hx:Zc[i]?=some x)(hv:VR ρ Ro v y):
  Gz ρ Ro (XM l i v) (putL x hs (.str x t) y es)/\(putL x hs (.str x t) y es).length=(XM l i v).length:=by
 induction F with
 |nil=>exact ⟨.cons hx hv .nil,rfl⟩
 | @cons k u l x' t' hs' y' es e hu F ih=>
  by_cases hk:k=i
  ·subst hk
   rw[hx] at e;obtain rfl:=QV e
   have h1:putL x hs (.str x t) y (⟨hs',.str x t',y'⟩::es)=⟨hs',.str x t',y⟩::es:=by
    unfold putL
    exact if_pos (QR x)
   have h2:XM ((k,u)::l) k v=(k,v)::l:=by show bc (Nat.beq k k) ((k,v)::l) _=_;rw[QI]
   rw[h1,h2]
   refine ⟨.cons hx hv F,?_⟩
   have:∀{l:List (Nat×V)}{es:List DictEntry},Gz ρ Ro l es->es.length=l.length:=λF=>by
    induction F with
    |nil=>rfl
    |cons _ _ _ ih=>rw[Qp,Qp,ih]
   rw[Qp,Qp,this F]
  ·have hne:x'≠x:=by rintro rfl;exact hk (Ix e hx)
   have h1:putL x hs (.str x t) y (⟨hs',.str x' t',y'⟩::es)=⟨hs',.str x' t',y'⟩::putL x hs (.str x t) y es:=by
    conv=>lhs;unfold putL
    exact if_neg (by show ¬(x' == x)=true;rw[beq_false_of_ne hne];exact Ri)
   have h2:XM ((k,u)::l) i v=(k,u)::XM l i v:=by show bc (Nat.beq k i) _ ((k,u)::XM l i v)=_;rw[Yl hk]
   rw[h1,h2]
   exact ⟨.cons e hu ih.1,by rw[Qp,Qp,ih.2]⟩
theorem Ku{l:List (Nat×V)}:∀{p},p∈XM l i v->p.1=i∨p∈l:=by
 induction l with
 |nil=>intro p hp;rw[List.mem_singleton.mp hp];exact .inl rfl
 |cons q r ih=>
  intro p hp
  by_cases hk:q.1=i
  ·have h2:XM (q::r) i v=(q.1,v)::r:=by show bc (Nat.beq q.1 i) ((q.1,v)::r) _=_;rw[hk,QI]
   rw[h2] at hp
   rcases Qe hp with e |e
   ·rw[e];exact .inl hk
   ·exact .inr (Qm _ e)
  ·have h2:XM (q::r) i v=q::XM r i v:=by show bc (Nat.beq q.1 i) _ (q::XM r i v)=_;rw[Yl hk]
   rw[h2] at hp
   rcases Qe hp with e |e
   ·rw[e];exact .inr Ql
   ·rcases ih e with e |e
    ·exact .inl e
    ·exact .inr (Qm _ e)
theorem Od{l:List (Nat×V)}(h:(l.map (·.1)).Nodup):((XM l i v).map (·.1)).Nodup:=by
 induction l with
 |nil=>exact List.nodup_cons.mpr ⟨List.not_mem_nil,QP⟩
 |cons q r ih=>
  have hx:=List.nodup_cons.mp h
  by_cases hk:q.1=i
  ·have h2:XM (q::r) i v=(q.1,v)::r:=by show bc (Nat.beq q.1 i) ((q.1,v)::r) _=_;rw[hk,QI]
   rw[h2]
   exact h
  ·have h2:XM (q::r) i v=q::XM r i v:=by show bc (Nat.beq q.1 i) _ (q::XM r i v)=_;rw[Yl hk]
   rw[h2,QJ,List.nodup_cons]
   refine ⟨λhm=>?_,ih hx.2⟩
   refine YB (Qb hm) λp hp e=>?_
   rcases Ku hp with e' |e'
   ·exact hk (e.symm.trans e')
   ·exact hx.1 (Qc ⟨p,e',e⟩)
theorem Gz.ids{l:List (Nat×V)}{es:List DictEntry}(F:Gz ρ Ro l es):∀x∈l.map (·.1),x < Zc.length:=by
 induction F with
 |nil=>intro x hx;cases hx
 |cons e _ _ ih=>
  intro x hx
  rcases Qe hx with h |h
  ·rw[h];exact (Qa e).1
  ·exact ih x h
set_option tactic.hygienic true in
theorem IJ(O:C.Ok)(hk:k.cls=Xr.get){Ro Rq σ l s m i nm u v1 w y out}(T:At C L Ro Rq σ l s.heap m)(R1:VR C.ρ Ro u v1)(Rw:VR C.ρ Ro w y)(hn:Zc[i]?=some nm)(e:setA k l i w u σ=out)(hno:out≠ .no)
  {Q:Flow->Rk->Prop}{E}(h:PS C L Ro Rq s.heap out Q s):wpAny (model C.prog C.w) A (setAttr v1 nm y) (λ_=>Q .next) E s:=by
 induction R1<;>try (exact absurd e.symm hno)
 rename_i j a ha
 replace e:XbX k l i w σ (σ.get j)=out:=e
 induction q:σ.get j with
 |none=>rw[q] at e;exact absurd e.symm hno
 |some o=>
  rw[q] at e
  refine Zx λ_ kk=>?_
  induction o<;>first |exact absurd e.symm hno |(refine kk ?_;clear kk)
  rename_i c d
  replace e:XbW k l i w σ c d (σ.get d)=out:=e
  induction q2:σ.get d with
  |none=>rw[q2] at e;exact absurd e.symm hno
  |some o=>
   rw[q2] at e
   refine Zx λ_ kk=>?_
   induction o<;>first |exact absurd e.symm hno |(refine kk ?_;clear kk)
   rename_i c' fs
   replace e:bc (Nat.beq c c') (oc (k.cls c) .no λcl=>bc (WX cl.mask i) (.next l (σ.put d (.flds c' (XM fs i w)))) .no) .no=out:=e
   by_cases hcc:c=c'
   ·subst hcc
    rw[QI,hk] at e
    refine x38 (D3 T.rp ha q q2) λdx es nn h4 h7 h2 h5 h8 F I zz1=>?_;refine Iv zz1 λhnd zz2=>?_;refine YB zz2 λcl hcl hm=>?_
    rw[hcl] at e
    replace e:bc (WX cl.mask i) (.next l (σ.put d (.flds c (XM fs i w)))) .no=out:=e
    obtain ⟨hb,e⟩:=YR e (λe=>hno e.symm)
    subst e
    have K:=O.cls c cl hcl
    refine YO (K.fld i nm hb hn) λattr f1 f2 f3=>?_
    have hdL:dx≠L:=by rintro rfl;rw[T.ownL] at h7;cases h7
    have hd0:C.H0.get? dx=none:=by
     induction q:C.H0.get? dx with
     |none=>rfl
     |some o=>rw[T.rp.old dx o q] at h7;exact Xx h7
    have fp:=F.put (hs:=PyData.keyHash C.w.params nm) (t:=s.toks + 1) hn Rw
    have hl:(getL nm es).isSome=true:=by
     have f:=F.got hn
     induction q3:Xh fs i with
     |some z=>refine YB (f.1 _ q3) λz' e4 _=>?_;rw[e4];rfl
     |none=>rw[f.2.1 q3];rfl
    refine set_dict (w:=C.w) T.fr O.inK (XO _ _ _) I rfl K.setA K.over f3 K.hasD hl rfl (U5 h8 hdL hd0) ?_ λh' F' N'=>?_
    ·rw[fp.2]
     have:=Wu (Od (i:=i) (v:=w) hnd) fp.1.ids
     rw[Qs] at this
     have hN:Zc.length=183:=by rw[show Zc.length=NM.length from Qs ..];rfl
     lia
    ·obtain ⟨G,T'⟩:=At.put (x:= .flds c (XM fs i w)) T h4 h7 h8 F' N' λe=>⟨_,_,e,fp.1,Od hnd,cl,hcl,λp hp=>by
      rcases Ku hp with e |e
      ·rw[e];exact hb
      ·exact hm p e⟩
     exact h h' _ Ro Rq m G T'
   ·rw[Yl hcc] at e;exact absurd e.symm hno
theorem Xly(O:C.Ok)(hk:k.cls=Xr.get){o:Expr}(hy:SE C n L k y (eval e env))(hx:SE C n L k x (eval o env))(hn:Zc[i]?=some nm)(hs:swapsWith e (some (.Attribute o nm p)) pos.line env=pure false):
  SS C n L k (Xl x i y) (exec (.Assign [.Attribute o nm p] e pos) env):=by
 intro A g Ro Rq σ l s m out T e' hno Q E h
 refine Y5 (Xu.of_toS e' hno) λw σ1 e1 e2=>?_
 refine Y5 (Xu.of_toS e2 hno) λu σ2 e3 e4=>?_
 refine plainObj_wpAny_Assign_Attribute (hy A g _ _ _ _ _ _ _ _ T e1 _ _ λh1 t1 Ru Rv m1 v1 G1 T1 R1=>?_) hs
 refine hx A g _ _ _ _ {s with heap:=h1,toks:=t1} _ _ _ T1 e3 _ _ λh2 t2 Rz RA m2 v2 G2 T2 R2=>?_
 exact IJ (s:={s with heap:=h2,toks:=t2}) O hk T2 R2 (R1.mono G2.pre) hn e4 hno (h.step (G1.trans G2))
def Dy(C:Cx)(fd:FuncData)(fc:X7):Prop:=∀Ro args vs l (s:Rk),C.K.In s.heap->YH C.ρ Ro args vs->Jg fc.params args fc.dflts=some l->
 ∃binds,BindsTo s fd ⟨vs,[]⟩ binds/\(∀x∈binds,fd.scope.names.lookup x.1=some .local)/\LR C Ro l (λx=>binds.reverse.lookup x)
structure DA(C:Cx)(n:Nat)(f:Rn)(fd:FuncData)(fc:X7)(body:List Stmt)(cal:Je):Prop where
 obj:∃oc od sl,C.K.lookup f=some ⟨oc,od,.func fd,sl⟩
 code:codeIn C.K fd.code fd.qualname=true
 stmts:fd.body= .stmts body
 cell:∀x∈fd.scope.names,x.2≠ .cell
 co:fd.scope.isCoroutine=false
 gen:fd.scope.isGenerator=false
 kind:fd.scope.kind= .function
 bind:Dy C fd fc
 run:∀L F G,Xm C.ρ F->XS C.ρ G->SS C n L ⟨F,G,Xr.get,842,cal⟩ fc.body (execs body (callEnv fd L f))
theorem O1(Rx:C.cells=[])(O:C.Ok){f:Rn}(K:DA C n f fd fc body cal)(hX1:X.top.cls=Xr.get)(hX2:X.top.wheelC=842)(HF:Xm C.ρ X.F)(HG:XS C.ρ X.G)(g:X5 A (n + 1)){Ro Rq σ s args vs v σ'}
  (R:Rp C Ro Rq σ s.heap)(Rs:YH C.ρ Ro args vs)(e:Zw X cal args σ (some fc)= .ok v σ')(Q:Result->Rk->Prop)
  (h:N0 C Ro Rq s σ' v Q):
  codeAny (model C.prog C.w) A (.call (.ref f) ⟨vs,[]⟩) Q s:=by
 refine x31 K.obj λoc0 od sl ho=>?_
 have X0:C.K.In s.heap:=O.inK.keeps R.keep
 refine WA (show oc (Jg fc.params args fc.dflts) .no (λl=>Ze (fc.body (Ik X cal) l σ))= .ok v σ' from e) λl e1 e2=>?_
 refine YO (K.bind Ro args vs l s X0 Rs e1) λbinds b1 b2 b3=>?_
 have hk:Ik X cal=⟨X.F,X.G,Xr.get,842,cal⟩:=by unfold Ik;rw[hX1,hX2]
 rw[hk] at e2
 have hg:A.depth < recursionLimit:=by show A.depth < 1000;have:=g.2.1;lia
 refine codeAny_call_def hg (X0 _ _ ho) rfl (O.top.nolimit.keeps R.keep) (codeRec_of X0 K.code) K.stmts b1 K.cell b2 (λh₀ hns hkeep=>?_) K.co K.gen K.kind
 have hL0:s.heap.get? s.heap.objs.size=none:=Ye _
 have F:Fr C.H0 s.heap.objs.size h₀ (λx=>binds.reverse.lookup x):=⟨hns,λb o e=>hkeep b o (R.keep b o e),R.big⟩
 have T:At C s.heap.objs.size Ro (λb=>if b=s.heap.objs.size then none else Rq b) σ l h₀ (λx=>binds.reverse.lookup x):=by
  refine ⟨⟨R.len,λb o e=>?_,F.keep,JS F,λi o e=>?_⟩,F,if_pos rfl,b3,λp hp=>by rw[Rx] at hp;cases hp⟩
  ·show (if b=s.heap.objs.size then none else Rq b)=none
   split
   ·rfl
   ·exact R.old b o e
  ·refine YO (R.obj i o e) λa h1 h2 h3=>?_
   obtain ⟨y,hy⟩:=h3.live
   have ha:a≠s.heap.objs.size:=Qz (Qu hy)
   refine ⟨a,h1,(if_neg ha).trans h2,h3.mono h2 Qy (λb o _ e=>hkeep b o e) λb hb=>if_neg ?_⟩
   rintro rfl
   rw[hL0] at hb;exact ff hb
 have G0:XJ (λ_=>False) Ro Rq s.heap Ro (λb=>if b=s.heap.objs.size then none else Rq b) h₀:=
  ⟨Qy,λb o e=>if_neg (Qz (Qu e)),λb o e _ _=>hkeep b o e,λb o e=>⟨o,hkeep b o e⟩⟩
 have back:∀{Rr Rt h'},XJ (·=s.heap.objs.size) Ro (λb=>if b=s.heap.objs.size then none else Rq b) h₀ Rr Rt h'->XJ (λ_=>False) Ro Rq s.heap Rr Rt h':=λG=>
  ⟨G.pre,λb o e=>(G.same b o (hkeep b o e)).trans (if_neg (Qz (Qu e))),λb o e hn _=>G.keep b o (hkeep b o e) ((if_neg (Qz (Qu e))).trans hn) (Qz (Qu e)),λb o e=>G.live b o (hkeep b o e)⟩
 have run:=K.run s.heap.objs.size X.F X.G HF HG (A.deeper (callEnv fd s.heap.objs.size f)) g.deeper Ro _ σ l {s with heap:=h₀,toks:=s.toks + binds.length} _ _ T rfl
 generalize hout:fc.body ⟨X.F,X.G,Xr.get,842,cal⟩ l σ=out at run e2
 refine wpAny_mono (run (by rintro rfl;cases e2) (λfl s'=>Q (.ok (.ret (match fl with | .ret v=>v |_=> .none))) s') (λ_ _=>False) ?_) (λ_ _ x=>x) λ_ _ x=>x.elim
 induction out with
 |no=>exact Y3 e2
 |next l1 σ1=>
  replace h:=h.eq e2
  exact λh' t Rr Rt m' G T'=>h h' t Rr Rt _ (back G) T'.rp .none
 |ret u σ1=>
  replace h:=h.eq e2
  exact λh' t Rr Rt m' l' val G T' V=>h h' t Rr Rt val (back G) T'.rp V
def Xcd(C:Cx)(G:Oz):Prop:=∀(A:Around)(n:Nat),YK A n->∀L Ro Rq σ l s m op o i v x y r σ',opN op=some o->At C L Ro Rq σ l s.heap m->Xkj G o σ (.ref i) v= .ok r σ'->VR C.ρ Ro (.ref i) x->VR C.ρ Ro v y->∀Q E,PE C L Ro Rq s.heap σ' l r Q s->wpAny (model C.prog C.w) A (binaryOp op x y) Q E s
set_option tactic.hygienic true in
theorem Xkk(HG:XS C.ρ k.G)(HC:Xcd C k.G)(g:YK A n){Ro Rq σ l s m op o u v x y r σ'}(ho:opN op=some o)(T:At C L Ro Rq σ l s.heap m)(e:Xkj k.G o σ u v= .ok r σ')(hu:VR C.ρ Ro u x)(hv:VR C.ρ Ro v y)
  (h:PE C L Ro Rq s.heap σ' l r Q s):wpAny (model C.prog C.w) A (binaryOp op x y) Q E s:=by
 have hnum:∀{u v},VR C.ρ Ro u x->VR C.ρ Ro v y->XfT k.G o σ u v= .ok r σ'->wpAny (model C.prog C.w) A (binaryOp op x y) Q E s:=λ{u v} hu hv e=>by
  refine WA (show oc (Zl u) Xu.no (λx=>oc (Zl v) Xu.no λy=>oc (ZD k.G o x y) Xu.no λz=>Xu.ok (.int z) σ)=Xu.ok r σ' from e) λa e1 e2=>?_
  refine WA e2 λb e3 e4=>?_
  refine WA e4 λz e5 e6=>?_
  replace h:=h.eq e6
  refine O8 e1 hu λa' t hx=>O8 e3 hv λb' t' hy=>?_
  exact XfU HG ho hx hy e5 λr t' t'' hr=>h s.heap t'' Ro Rq m _ .refl T (.int _ _ _ hr)
 induction hu with
 |ref i a h1=>exact HC A n g L Ro Rq σ l s m op o i v _ y r σ' ho T e (.ref i a h1) hv Q E h
 |bytes b t h1=>
  induction v<;>try (exact Y3 e;done)
  rename_i c
  refine YB hv.bytesI λt' zz3 h2=>?_;subst zz3
  refine Ny (show bc (Nat.beq o 0) (Mv (b++c) σ) Xu.no=Xu.ok r σ' from e) λh3 e=>?_
  obtain ⟨h4,e⟩:=YR (show bc (XU (b++c)) (Xu.ok (.bytes (b++c)) σ) Xu.no=Xu.ok r σ' from e) nofun
  replace h:=h.eq e
  have:=Qi h3
  subst this
  have hop:op= .Add:=by cases op<;>first |rfl |cases ho
  subst hop
  have hl:=Yc h4
  rw[Qw] at hl
  refine KBy.add_bytes (by simp;lia) λt'' k=>?_
  have:(b.map Nat.toUInt8).toArray++(c.map Nat.toUInt8).toArray=((b++c).map Nat.toUInt8).toArray:=by simp
  rw[this]
  exact h s.heap k Ro Rq m _ .refl T (.bytes _ _ (by rw[List.all_append,h1,h2];rfl))
 |none=>exact hnum .none hv e
 |bool c=>exact hnum (.bool c) hv e
 |int i z t h1=>exact hnum (.int i z t h1) hv e
 |str i z t h1=>exact hnum (.str i z t h1) hv e
 |fn a=>exact hnum (.fn a) hv e
 |cls a=>exact hnum (.cls a) hv e
 |cond a b h1=>exact hnum (.cond a b h1) hv e
theorem Xpv(HG:XS C.ρ k.G)(HC:Xcd C k.G){f:Expr}{o:Nat}(ho:opN op=some o)(hx:SE C n L k x (eval e env))(hy:SE C n L k y (eval f env)):SE C n L k (Xo o x y) (eval (.BinOp e op f pos) env):=by
 intro A g Ro Rq σ l s m v σ' T e' Q E h
 refine Js e' λu σ1 e1 e2=>?_
 refine Js e2 λu' σ2 e3 e4=>?_
 refine wpAny_BinOp (hx A g _ _ _ _ _ _ _ _ T e1 _ _ λh1 t1 Ru Rv m1 v1 G1 T1 R1=>?_)
 refine hy A g _ _ _ _ {s with heap:=h1,toks:=t1} _ _ _ T1 e3 _ _ λh2 t2 Rz RA m2 v2 G2 T2 R2=>?_
 exact Xkk (s:={s with heap:=h2,toks:=t2}) HG HC g ho T2 e4 (R1.mono G2.pre) R2 (h.step (G1.trans G2))
theorem Xlt{b:List Nat}{bs:List UInt8}{kk pos}(h1:(b.all λn=>Nat.ble n 255)=true)(h2:b.map Nat.toUInt8=bs):SE C n L k (Jn b) (eval (.Constant (.bytes bs) kk pos) env):=by
 subst h2
 intro A g Ro Rq σ l s m v σ' T e Q E h
 replace h:=h.eq e
 exact Constant_bytes (h _ _ _ _ _ _ .refl T (.bytes _ _ h1))
theorem XpE{t x y:MB}{c a b:Expr}(ht:SB C n L k t (isTrue c env (eval c env)))(hx:SB C n L k x (isTrue a env (eval a env)))(hy:SB C n L k y (isTrue b env (eval b env))):SB C n L k (Xmq t x y) (isTrue (.IfExp c a b pos) env w):=by
 intro A g Ro Rq σ l s m v σ' T e' Q E h
 refine XhD e' λu σ1 e1 e2=>?_
 refine isTrue_IfExp (ht A g _ _ _ _ _ _ _ _ T e1 _ _ λh1 t1 Ru Rv m1 G1 T1=>?_)
 induction u with
 |true=>exact hx A g _ _ _ _ {s with heap:=h1,toks:=t1} _ _ _ T1 e2 _ _ (h.step G1)
 |false=>exact hy A g _ _ _ _ {s with heap:=h1,toks:=t1} _ _ _ T1 e2 _ _ (h.step G1)
theorem XvM(hx:SE C n L k x (eval e env)):SE C n L k (Xd9 x) (eval (.UnaryOp .USub e pos) env):=by
 intro A g Ro Rq σ l s m v σ' T e' Q E h
 refine Js e' λu σ1 e1 e2=>?_
 refine UnaryOp_ (hx A g _ _ _ _ _ _ _ _ T e1 _ _ λh1 t1 Ru Rv m1 v1 G1 T1 R1=>?_)
 refine Zx λ_ kk=>?_
 induction u<;>first |exact Y3 e2 |(refine kk ?_;clear kk)
 replace h:=h.eq e2
 cases R1 with
 |int i z t hz=>
  exact PyProof.Rows.neg_int (h h1 _ Ru Rv m1 _ G1 T1 (.int _ _ _ (by rw[U6,hz];lia)))
noncomputable def sEq:Rm->Rm->Bool
 | .none,.none=>true
 | .bool a,.bool b=>a == b
 | .int a _,.int b _=>a == b
 | .str a _,.str b _=>a == b
 | .bytes a _,.bytes b _=>decide (a.toList=b.toList)
 |_,_=>false
section
set_option tactic.hygienic true
theorem Xmh(H:Xm C.ρ F){x y:Rm}{r:Bool}(e:eqV F σ 0 u v=some r)(hu:VR C.ρ Ro u x)(hv:VR C.ρ Ro v y):r=sEq x y:=by
 replace e:Xdc F (λ_ _=>none) u v=some r:=e
 induction hu<;>induction hv<;>first |(obtain rfl:=QV e;rfl) |skip
 all_goals try (exact Xx e;done)
 ·rename_i i z t h1 j z' t' h2
  rw[Xh3 H (show eqL F i j=some r from e),h1,h2,←IA]
  rfl
 ·rename_i k x t h1 k' x' t' h2
  rw[←QV (show some (Nat.beq k k')=some r from e),←Xcg h1 h2]
  rfl
 ·rename_i b t h1 c t' h2
  rw[←QV (show some (eqB b c)=some r from e),←OY h1 h2]
  rfl
theorem Xcm(H:Xm C.ρ F)(R:Rp C Ro Rq σ s.heap){x:Rm}(hu:VR C.ρ Ro u x)(hA:A.units<=9801):
  ∀{l:List V}{vs:List Rm}{b:Bool},YH C.ρ Ro l vs->OU F σ u l=some b->(∀y∈vs,SeqAt.EqAt A s y x (sEq y x))/\b=vs.any λy=>sEq y x:=by
 intro l
 induction l with
 |nil=>intro vs b Rl e;refine Rl.nilE ?_;obtain rfl:=QV e;exact ⟨nofun,rfl⟩
 |cons v l ih=>
  intro vs b Rl e
  refine Rl.consE λy vs h hs=>?_
  refine Z8 e λp hp e=>?_
  refine Z8 e λq hq e=>?_
  obtain rfl:=QV e
  refine Iv (ih hs hq) λh1 h2=>?_
  have h3:=Xmh H hp h hu
  refine ⟨λy' hy'=>?_,by rw[List.any_cons,←h2,←h3]⟩
  rcases Qe hy' with e |e
  ·rw[e,←h3]
   exact (MJ H R 0 9801 (by decide) A hA _ _ _ _ _ hp h hu).eq
  ·exact h1 y' e
set_option tactic.hygienic false
theorem DB.look{l:List (Int×V)}(I:DB ρ Ro l kvs)(c:Int):
  (∀v,Y8 l c=some v->∃y,valueAt kvs c=some y/\VR ρ Ro v y)/\(Y8 l c=none->valueAt kvs c=none)/\l.length=kvs.length/\kvs.map (·.1)=l.map (·.1):=by
 induction I with
 |nil=>exact ⟨λv e=>(by exact Xx e),λ_=>rfl,rfl,rfl⟩
 | @cons k v l y es hv I ih=>
  have hlen:(((k,v)::l:List (Int×V)).length=((k,y)::es:List (Int×Rm)).length)/\((k,y)::es:List (Int×Rm)).map (·.1)=((k,v)::l:List (Int×V)).map (·.1):=by
   rw[Qp,Qp,ih.2.2.1,QJ,QJ,ih.2.2.2];exact ⟨rfl,rfl⟩
  by_cases h:k=c
  ·subst h
   have e1:Y8 ((k,v)::l) k=some v:=by show bc (decide (k=k)) _ _=_;rw[Qo rfl]
   have e2:valueAt ((k,y)::es) k=some y:=by unfold valueAt;rw[List.find?_cons,Qo rfl];rfl
   exact ⟨λu e=>⟨y,e2,by rw[e1] at e;obtain rfl:=QV e;exact hv⟩,λe=>absurd (e1.symm.trans e) nofun,hlen⟩
  ·have e1:Y8 ((k,v)::l) c=Y8 l c:=by show bc (decide (k=c)) _ _=_;rw[Qn h]
   have e2:valueAt ((k,y)::es) c=valueAt es c:=by unfold valueAt;rw[List.find?_cons,Qn h]
   rw[e1,e2]
   exact ⟨ih.1,ih.2.1,hlen⟩
set_option tactic.hygienic true in
theorem Xal(H:Xm C.ρ F):Xfw C F:=by
 intro A hA Ro Rq σ s u v x y b e R hu hv Q E h
 induction hv<;>try (exact Xx e;done)
 rename_i j a ha
 replace e:inO F σ u (σ.get j)=some b:=e
 induction q:σ.get j with
 |none=>rw[q] at e;exact Xx e
 |some o=>
  rw[q] at e
  refine YO (R.obj j _ q) λa' f1 f2 f3=>?_
  rw[ha] at f1;obtain rfl:=QV f1
  have hA1:A.in1.units<=9801:=by show A.units + 1<=9801;lia
  refine Zx λ_ kk=>?_
  induction o<;>first |exact Xx e |(refine kk ?_;clear kk)
  ·refine Y5 f3 λvs n1 h1 h2=>?_
   obtain ⟨p1,p2⟩:=Xcm (A:=A.in1) H R hu hA1 h2 e
   refine SeqAt.in_listAt (λy=>sEq y x) ⟨_,h1,rfl,n1,rfl⟩ (λy hy=>p1 y (by simpa using hy)) ?_
   rw[List.any_toArray,←p2];exact h s.toks
  ·refine Y5 f3 λvs n1 h1 h2=>?_
   obtain ⟨p1,p2⟩:=Xcm (A:=A.in1) H R hu hA1 h2 e
   refine SeqAt.in_tupleAt (λy=>sEq y x) ⟨_,h1,rfl,n1,rfl⟩ (λy hy=>p1 y (by simpa using hy)) ?_
   rw[List.any_toArray,←p2];exact h s.toks
  ·rename_i l
   refine Iv f3 λhsys zz1=>?_;refine UB zz1 λo kvs g1 g2 g3=>?_
   induction hu<;>try (exact Xx e;done)
   rename_i i z t hz
   replace e:(i.lit?.map λk=>(Y8 l k).isSome)=some b:=e
   induction q2:i.lit? with
   |none=>rw[q2] at e;exact Xx e
   |some c=>
    rw[q2] at e
    obtain rfl:=QV e
    have hzc:z=c:=by rw[←hz,XH q2]
    subst hzc
    refine wpAny_in_of (knd:=PySem.intKind C.prog C.w) (k:=z) (intKind_is _ _ _ _) hsys (Heap.dictOf_iff.mpr ⟨o,g1,g2 _ _⟩).mapOf ?_
    have hl:=g3.look z
    have:(valueAt kvs z).isSome=(Y8 l z).isSome:=by
     induction q3:Y8 l z with
     |none=>rw[hl.2.1 q3];rfl
     |some v=>refine YB (hl.1 v q3) λy e1 _=>?_;rw[e1];rfl
    rw[this]
    exact h _
end
def Ng(e:Expr):Bool:= !isX 26 e
theorem Oo{o i:Rm}(h:Ng e=true):subscripted e false o i=operate [o,i] (getItem o i):=by
 cases e<;>first |rfl |cases h
theorem IK{prog:Program}{w:World}{slice:Expr}{o i:Rm}{T id:String}(hs:Ng slice=true)(hT:s.TypeIs o T)
  (hl:typeLookup (.type T) "__getitem__"=pure (some (.builtin id)))(h:wpAny (model prog w) A (getItem o i) Q E s):wpAny (model prog w) A (subscriptTail value slice o i) Q E s:=by
 unfold subscriptTail
 refine Qg ?_
 rw[getitemInPython_of_ne hT.not_modules]
 refine Qg (wpAny_specialOf hT hl ?_)
 have fin:wpAny (model prog w) A (subscripted slice false o i) (λr s₃=>wpAny (model prog w) A (letTemporaryGo value o r>>=λ_=>pure r) Q E s₃) E s:=by
  rw[Oo hs]
  exact wpAny_operating (wpAny_mono h (λr s₃ h₃=>Qg (wpAny_letTemporaryGo (Qh h₃))) λ_ _ x=>x)
 first
  |exact Qh (Qg fin)
  |exact Qg (Qh (Qg fin))
  |exact Qg fin
theorem Zo:∀{l:List α}{i:Nat},Zn l i=l[i]?
 | [],_=>rfl
 |x::r,0=>rfl
 |x::r,i + 1=>by
  show Zn r (i + 1 - 1)=r[i]?
  exact Zo
theorem YH.get{u:List V}{v:List Rm}(x:YH ρ Ro u v){a:V}(h:u[i]?=some a):∃b,v[i]?=some b/\VR ρ Ro a b:=by
 have hl:=x.length
 obtain ⟨h1,_⟩:=Qa h
 have h2:v[i]?=some v[i]:=Qq (by lia)
 exact ⟨_,h2,x.at h h2⟩
theorem Xmk{k:Nat}(h:k < n):seqIndex? (k:Int) n=some k:=by
 unfold seqIndex?
 rw[if_neg (Int.not_lt.mpr (Int.natCast_nonneg k))]
 exact if_pos (by rw[Qo (Int.natCast_nonneg k),Qo (Int.ofNat_lt.mpr h)];rfl)
set_option tactic.hygienic true in
theorem Xmn{Ro Rq σ l s m u v x y r}{slice:Expr}(hs:Ng slice=true)(T:At C L Ro Rq σ l s.heap m)(hu:VR C.ρ Ro u x)(hv:VR C.ρ Ro v y)(e:Xe5 σ u v=some r)
  (h:∀z t,VR C.ρ Ro r z->Q z {s with toks:=t}):wpAny (model C.prog C.w) A (subscriptTail value slice x y) Q E s:=by
 induction hu<;>try (exact Xx e;done)
 rename_i j a ha
 induction hv<;>try (exact Xx e;done)
 rename_i i z t hz
 replace e:Gs i (σ.get j)=some r:=e
 induction q:σ.get j with
 |none=>rw[q] at e;exact Xx e
 |some o=>
  rw[q] at e
  refine YO (T.rp.obj j _ q) λa' f1 f2 f3=>?_
  rw[ha] at f1;obtain rfl:=QV f1
  have idx:∀{l:List V},XdQ l i=some r->∃k:Nat,z=k/\k < 2 ^ 63/\l[k]?=some r:=λ{l} e=>by
   refine Z8 (show oc i.lit? none (λk=> @Int.rec (λ_=>Option V) (λn=>bc (Nat.ble n 60000) (Zn l n) none) (λ_=>none) k)=some r from e) λc e1 e2=>?_
   induction c with
   |negSucc _=>exact Xx e2
   |ofNat n=>
    refine Wg (show bc (Nat.ble n 60000) (Zn l n) none=some r from e2) λe3 e4=>?_
    have:=Qv e3
    exact ⟨n,by rw[←hz,XH e1];rfl,by lia,by rw[←Zo];exact e4⟩
  refine Zx λ_ kk=>?_
  induction o<;>first |exact Xx e |(refine kk ?_;clear kk)
  ·rename_i l
   refine Y5 f3 λvs n1 h1 h2=>?_
   refine YO (idx (show XdQ l i=some r from e)) λk zz1 hk e1=>?_;subst zz1
   refine YB (h2.get e1) λb e2 e3=>?_
   have I:s.heap.IsList a vs.toArray:=⟨_,h1,rfl,n1,rfl⟩
   exact IK hs I.typeIs slot_list_getitem.lookup (wpAny_getItem_list I (Int.natCast_nonneg k) (by lia) (by simpa using e2) (h b s.toks e3))
  ·rename_i l
   refine Y5 f3 λvs n1 h1 h2=>?_
   refine YO (idx (show XdQ l i=some r from e)) λk zz2 hk e1=>?_;subst zz2
   refine YB (h2.get e1) λb e2 e3=>?_
   have I:IsTup s.heap a vs.toArray:=⟨_,h1,rfl,n1,rfl⟩
   have hlt:=(Qa e2).1
   exact IK hs I.typeIs slot_tuple_getitem.lookup (getItem_tuple I (by lia) (by lia) (j:=k) (Xmk hlt) (by simpa using e2) (h b s.toks e3))
  ·rename_i l
   refine Iv f3 λhsys zz3=>?_;refine UB zz3 λo kvs g1 g2 g3=>?_
   replace e:(match i.lit? with |some k=>Y8 l k |none=>none)=some r:=e
   induction q2:i.lit? with
   |none=>rw[q2] at e;exact Xx e
   |some c=>
    rw[q2] at e
    have hzc:z=c:=by rw[←hz,XH q2]
    subst hzc
    refine YB ((g3.look z).1 r e) λy e1 e2=>?_
    have hD:s.heap.DictOf (PySem.intKind C.prog C.w) a kvs:=Heap.dictOf_iff.mpr ⟨o,g1,g2 _ _⟩
    exact IK hs hD.typeIs slot_dict_getitem.lookup (wpAny_getItem_of (intKind_is _ _ _ _) hD.mapOf e1 (h y _ e2))
section
theorem At.kept(T:At C L Ro Rq σ l h m)(hk:∀b o,h.get? b=some o->h'.get? b=some o):
  XJ (·=L) Ro Rq h Ro Rq h'/\At C L Ro Rq σ l h' m:=by
 have F':=T.fr.grownK hk
 have G:XJ (·=L) Ro Rq h Ro Rq h':=⟨Qy,λ_ _ _=>rfl,λb o e _ _=>hk b o e,λb o e=>⟨o,hk b o e⟩⟩
 refine ⟨G,⟨T.rp.len,T.rp.old,F'.keep,JS F',λj o e=>?_⟩,F',T.ownL,T.lr,T.cel.gone G⟩
 refine YO (T.rp.obj j o e) λa h1 h2 h3=>?_
 exact ⟨a,h1,h2,h3.mono h2 Qy (λb o hb e=>hk b o e) λ_ _=>rfl⟩
theorem XvP{f:Expr}(hx:SE C n L k x (eval e env))(hy:SE C n L k y (eval f env))(hs:Ng f=true):SE C n L k (Yv x y) (eval (.Subscript e f pos) env):=by
 intro A g Ro Rq σ l s m v σ' T e' Q E h
 refine Js e' λu σ1 e1 e2=>?_
 refine Js e2 λu' σ2 e3 e4=>?_
 induction q:Xe5 σ2 u u' with
 |none=>rw[show YS (Xe5 σ2 u u') σ2=YS none σ2 by rw[q]] at e4;exact Y3 e4
 |some r=>
  rw[show YS (Xe5 σ2 u u') σ2=YS (some r) σ2 by rw[q]] at e4
  replace h:=h.eq e4
  refine Subscript_ (hx A g _ _ _ _ _ _ _ _ T e1 _ _ λh1 t1 Ru Rv m1 v1 G1 T1 R1=>?_)
  refine hy A g _ _ _ _ {s with heap:=h1,toks:=t1} _ _ _ T1 e3 _ _ λh2 t2 Rz RA m2 v2 G2 T2 R2=>?_
  exact Xmn (s:={s with heap:=h2,toks:=t2}) hs T2 (R1.mono G2.pre) R2 q λz t hz=>h h2 t Rz RA m2 z (G1.trans G2) T2 hz
def Oy(C:Cx)(F:XA)(i:Nat)(bv:Rm):Prop:=∀(A:Around)(n:Nat),YK A n->∀L Ro Rq σ l s m us vs v σ',At C L Ro Rq σ l s.heap m->YH C.ρ Ro us vs->biV F i us σ= .ok v σ'->∀Q E,PE C L Ro Rq s.heap σ' l v Q s->wpAny (model C.prog C.w) A (call bv vs) Q E s
def XgI:Rm->Bool
 | .builtin _=>true
 | .type _=>true
 |_=>false
theorem Zd{bv:Rm}(hb:XgI bv=true){a:Expr}(hs:Ys (a::r)=true)
  (h:wpAny (model C.prog C.w) A (spliced (backTo pos (starEach (a::r) env))) (λvs s₁=>wpAny (model C.prog C.w) A (call bv vs) Q E s₁) E s):wpAny (model C.prog C.w) A (callWith pos bv [] (backTo pos (starEach (a::r) env)) []) Q E s:=by
 refine b2 (show (Y9 a&&Ys r)=true from hs) λh1 h2=>?_
 induction bv<;>try (exact ff hb;done)
 ·exact PyProof.Rows.callWith_type1 h (XX h1) (Jd h2)
 ·exact PyProof.Rows.callWith_builtin1 h (XX h1) (Jd h2)
theorem qBi(O:C.Ok)(hE:ZC env L){bv:Rm}{x:Str}{y:ML}(e:nsIn C.K mainGlobals x=some none)(hv:bootBuiltins x=some bv)(hn:x≠"__name__")
  (hl:env.kindOf x=some .globalImplicit)(hd:(x == ("__debug__":Str))=false)(hb:XgI bv=true)(hB:Oy C k.F i bv)(hs:Ys args=true)(hne:args≠[])
  (hy:SL C n L k y (spliced (backTo pos (starEach args env)))):SE C n L k (YI i y) (eval (.Call (.Name x p) args [] pos) env):=by
 intro A g Ro Rq σ l s m v σ' T e' Q E h
 refine Ir e' λus σ1 e1 e2=>?_
 refine Call_ (JC hE T.fr O.inK O.top e hv hn ?_ hl hd)
 induction args with
 |nil=>exact absurd rfl hne
 |cons a r=>
  refine Zd hb hs (hy A g _ _ _ _ _ _ _ _ T e1 _ _ λh1 t1 Ru Rv m1 v1 G1 T1 R1=>?_)
  exact hB A n g L _ _ _ _ {s with heap:=h1,toks:=t1} _ _ _ _ _ T1 R1 e2 Q E (h.step G1)
theorem JH{b:Array UInt8}(h:s.heap.get? a=some {cls:= .type "bytearray",data:= .bytearray b 0}):s.TypeIs (.ref a) "bytearray":=⟨_,h,rfl⟩
theorem Wn:Slot "bytearray" "__len__" "bytearray.__len__":=
 .of (owner:="bytearray") (n:="__len__") (by rw[typeLookup_type,QL];kernel_rfl) (by decide +kernel) (by decide +kernel) (by decide +kernel)
  (by first |exact .inl (by decide +kernel) |exact .inr (by decide +kernel)) (by rw[isSubtype_type];kernel_rfl)
theorem IX:entryFor table "bytearray.__len__"=some Builtin.«bytearray.__len__»:=by first |exact entryFor_of_fast (by kernel_rfl) |exact entryFor_of_tree (by kernel_rfl)
theorem OA(a:Rm):argsOk "bytearray.__len__" ⟨[a],[]⟩:=by unfold argsOk;kernel_rfl
theorem OD{prog:Program}{w:World}{b:Array UInt8}(ho:s.heap.get? a=some {cls:= .type "bytearray",data:= .bytearray b 0})(hfit:b.size<=60000)
  (h:Q (.int b.size (s.toks + 1)) {s with toks:=s.toks + 1 + 1}):wpAny (model prog w) A (call (.builtin "len") [.ref a]) Q E s:=by
 refine call_function_entry kind_len plain_len entry_len (args_len1 _) ?_
 unfold Builtin.«len»
 refine Qg (QF (a:=Value.ref a) rfl ?_)
 refine Qg (m:=callSpecial? (.ref a) (QW "__len__")) (wpAny_callSpecial?_slot (name:=QW "__len__") (JH ho) Wn
  (wpAny_call_entry Wn (JH ho) IX ?_ (OA _)))
 ·show wpAny _ _ (do retInt (←Builtin.Bytes.payload (.ref a)).size) _ _ s
  refine Qg ?_
  unfold Builtin.Bytes.payload Builtin.Bytes.payload?
  refine Qg (Qg (wpAny_load ho ?_))
  refine Qh (Qh ?_)
  refine Qg (wpAny_mkInt (Qh ⟨_,rfl,?_⟩))
  refine Qg (QB (Qh ?_))
  refine Qg (wpAny_letGo ?_)
  show wpAny _ _ (if ((b.size:Nat):Int) < 0 then _ else _) _ _ _
  rw[if_neg (by lia)]
  show wpAny _ _ (if ((b.size:Nat):Int) ≥ 2 ^ 63 then _ else _) _ _ _
  rw[if_neg (by lia)]
  exact Qg (wpAny_mkInt (Qh ⟨_,rfl,h⟩))
set_option tactic.hygienic true
theorem XcD:Oy C k.F 0 (.builtin "len"):=by
 intro A n g L Ro Rq σ l s m us vs v σ' T R e Q E h
 replace e:XhW σ us= .ok v σ':=e
 have lenR':∀{z:Nat},Xbz z σ= .ok v σ'->z<=60000/\v= .int (Xn (Int.ofNat z))/\σ=σ':=λe=>by
  refine Ny e λh1 h2=>?_
  cases h2
  exact ⟨Qv h1,rfl,rfl⟩
 induction R with
 |nil=>exact Y3 e
 |cons h1 h2=>
  induction h2 with
  |cons _ _=>induction h1<;>exact Y3 e
  |nil=>
   induction h1<;>try (exact Y3 e;done)
   ·rename_i b t hb
    refine YF (lenR' (show Xbz (Uy b) σ= .ok v σ' from e)) λe1 zz1 zz2=>?_;subst zz1;subst zz2
    rw[Y6] at e1
    have hs:(KBw.bInts (b.map Nat.toUInt8).toArray).length=b.length:=by rw[KBw.ints_length];simp
    refine KBw.len_K rfl (by lia) ?_
    rw[hs]
    exact h s.heap _ Ro Rq m _ .refl T (.int _ _ _ (by rw[Xs,Y6];rfl))
   ·rename_i i a ha
    replace e:Xk0 σ (σ.get i)= .ok v σ':=e
    induction q:σ.get i with
    |none=>rw[q] at e;exact Y3 e
    |some o=>
     rw[q] at e
     refine YO (T.rp.obj i _ q) λa' f1 f2 f3=>?_
     rw[ha] at f1;obtain rfl:=QV f1
     refine Zx λ_ kk=>?_
     induction o<;>first |exact Y3 e |(refine kk ?_;clear kk)
     ·rename_i x
      refine Y5 f3 λxs n1 g1 g2=>?_
      refine YF (lenR' (show Xbz (Uy x) σ= .ok v σ' from e)) λe1 zz3 zz4=>?_;subst zz3;subst zz4
      rw[Y6] at e1
      have hl:=g2.length
      refine call_len_list (items:=xs.toArray) ⟨_,g1,rfl,n1,rfl⟩ (by rw[Qx];lia) ?_
      exact h s.heap _ Ro Rq m _ .refl T (.int _ _ _ (by rw[Xs,Y6,Qx,hl];rfl))
     ·replace h:=h.eq e
      exact OD f3 (by decide) (h s.heap _ Ro Rq m _ .refl T (.int _ _ _ rfl))
theorem XcC:Oy C k.F 3 (.type "int"):=by
 intro A n g L Ro Rq σ l s m us vs v σ' T R e Q E h
 replace e:XhV σ us= .ok v σ':=e
 induction R with
 |nil=>exact Y3 e
 |cons h1 h2=>
  induction h2 with
  |cons _ _=>exact Y3 e
  |nil=>
   refine WA (show oc (Xp9 _) Xu.no (λx=> .ok (.int x) σ)= .ok v σ' from e) λx e1 e2=>?_
   replace h:=h.eq e2
   induction h1<;>try (exact Xx e1;done)
   ·rename_i b
    obtain rfl:=QV e1
    exact call_int_bool (h s.heap _ Ro Rq m _ .refl T (.int _ _ _ (by rw[Xs];induction b<;>rfl)))
   ·rename_i i z t hz
    obtain rfl:=QV e1
    exact call_int_int (h s.heap _ Ro Rq m _ .refl T (.int _ _ _ hz))
set_option tactic.hygienic false
theorem YH.int1{x:LI}(R:YH ρ Ro (.int x::us) vs):∃z t ws,vs= .int z t::ws/\x.val ρ=z/\YH ρ Ro us ws:=by
 refine R.consE λ_ _ h1 h2=>?_
 cases h1 with |int _ z t hz=>exact ⟨z,t,_,rfl,hz,h2⟩
theorem Xed{m:LI}{r:List V}(e:OL F m (v::r)=some z):∃x c,v= .int x/\Ow F x m=some c/\OL F (if c then x else m) r=some z:=by
 refine iKE e nS λx e1 e=>Z8 e λc e2 e=>⟨x,c,e1,e2,?_⟩
 induction c<;>exact e
theorem Xoq{m:LI}{r:List V}(e:D9 F m (v::r)=some z):∃x c,v= .int x/\Ow F m x=some c/\D9 F (if c then x else m) r=some z:=by
 refine iKE e nS λx e1 e=>Z8 e λc e2 e=>⟨x,c,e1,e2,?_⟩
 induction c<;>exact e
theorem Xjw{r:List V}(h:Nat.beq (Uy r) 1=true):∃y,r=[y]:=by
 have:=Qi h
 rw[Y6] at this
 exact List.length_eq_one_iff.mp this
theorem Xoj{r:List V}(h:Nat.beq (Uy r) 2=true):∃y z,r=[y,z]:=by
 have:=Qi h
 rw[Y6] at this
 induction r with
 |nil=>exact absurd this (by decide)
 |cons y r _=>
  obtain ⟨z,rfl⟩:=List.length_eq_one_iff.mp (Nat.succ.inj this)
  exact ⟨y,z,rfl⟩
theorem Xki{g:Prop}(e:XcG F σ us= .ok v σ')(f:∀x y z,us=[.int x,y]->OL F x [y]=some z->v= .int z->σ=σ'->g)
  (f3:∀x y w z,us=[.int x,y,w]->OL F x [y,w]=some z->v= .int z->σ=σ'->g):g:=by
 refine hdE e nR λu0 ur zz1 e=>iKE e nR λx zz2 e=>Ny e λhl e=>WA e λz e1 e2=>?_
 injection e2 with e2 e3
 rw[zz2] at zz1
 rcases (Bool.or_eq_true _ _).mp hl with hl |hl
 ·exact (Xjw hl).elim λy hy=>f x y z (by rw[zz1,hy]) (by rw[←hy];exact e1) e2.symm e3
 ·exact (Xoj hl).elim λy h=>h.elim λw hy=>f3 x y w z (by rw[zz1,hy]) (by rw[←hy];exact e1) e2.symm e3
theorem Xkh{g:Prop}(e:XcE F σ us= .ok v σ')(f:∀x y z,us=[.int x,y]->D9 F x [y]=some z->Xu.ok (.int z) σ= .ok v σ'->g):g:=
 hdE e nR λu0 ur zz1 e=>iKE e nR λx zz2 e=>Ny e λhl e=>WA e λz e1 e2=>(Xjw hl).elim λy hy=>f x y z (by rw[zz1,zz2,hy]) (by rw[←hy];exact e1) e2
theorem XcH(H:Xm C.ρ k.F):Oy C k.F 1 (.builtin "min"):=by
 intro A n g L Ro Rq σ l s m us vs v σ' T R e Q E h
 replace e:XcG k.F σ us= .ok v σ':=e
 have fin:∀{h' tk z v'},v= .int z->σ=σ'->(∀b o,s.heap.get? b=some o->h'.get? b=some o)->VR C.ρ Ro (.int z) v'->Q v' {s with heap:=h',toks:=tk}:=λ{h' tk z v'} hv hσ hk R=>by
  subst hv hσ
  obtain ⟨G,T'⟩:=T.kept hk
  exact h h' tk Ro Rq m v' G T' R
 refine Xki e (λx y z zz1 e1 e2 e3=>?_) λx y w z zz1 e1 e2 e3=>?_
 all_goals subst zz1 e2 e3
 ·refine UB (Xed e1) λy' c zz6 e3 e4=>?_;subst zz6
  refine R.int1E λzx tx ws hx R=>?_
  refine R.int1E λzy ty ws hy R=>?_
  have e5:=N5 H e3
  rw[hx,hy] at e5
  obtain rfl:=QV e4
  refine R.nilE ?_
  refine min_two_ints g.1 λh' tk hk=>fin rfl rfl hk ?_
  induction c with
  |true=>rw[if_pos (Qt e5.symm)];exact .int _ _ _ hy
  |false=>rw[if_neg (of_decide_eq_false e5.symm)];exact .int _ _ _ hx
 ·refine UB (Xed e1) λy' c zz7 e3 e4=>?_;subst zz7
  refine UB (Xed e4) λw' d zz8 e6 e7=>?_;subst zz8
  refine R.int1E λzx tx ws hx R=>?_
  refine R.int1E λzy ty ws hy R=>?_
  refine R.int1E λzw tw ws hw R=>?_
  have e5:=N5 H e3
  rw[hx,hy] at e5
  obtain rfl:=QV e7
  refine R.nilE ?_
  refine min_three_ints g.1 λh' tk hk=>fin rfl rfl hk ?_
  have e8:=N5 H e6
  induction c with
  |true=>
   rw[if_pos (Qt e5.symm)]
   rw[if_pos rfl,hw,hy] at e8
   induction d with
   |true=>rw[if_pos (Qt e8.symm)];exact .int _ _ _ hw
   |false=>rw[if_neg (of_decide_eq_false e8.symm)];exact .int _ _ _ hy
  |false=>
   rw[if_neg (of_decide_eq_false e5.symm)]
   rw[if_neg Ri,hw,hx] at e8
   induction d with
   |true=>rw[if_pos (Qt e8.symm)];exact .int _ _ _ hw
   |false=>rw[if_neg (of_decide_eq_false e8.symm)];exact .int _ _ _ hx
theorem XcF(H:Xm C.ρ k.F):Oy C k.F 2 (.builtin "max"):=by
 intro A n g L Ro Rq σ l s m us vs v σ' T R e Q E h
 replace e:XcE k.F σ us= .ok v σ':=e
 refine Xkh e λx y z zz1 e1 e2=>?_
 subst zz1
 replace h:=h.eq e2
 refine UB (Xoq e1) λy' c zz9 e3 e4=>?_;subst zz9
 refine R.int1E λzx tx ws hx R=>?_
 refine R.int1E λzy ty ws hy R=>?_
 have e5:=N5 H e3
 rw[hx,hy] at e5
 obtain rfl:=QV e4
 refine R.nilE ?_
 refine max_two_ints g.1 λh' tk hk=>?_
 obtain ⟨G,T'⟩:=T.kept hk
 refine h h' tk Ro Rq m _ G T' ?_
 induction c with
 |true=>have hc:zy > zx:=Qt e5.symm;rw[if_pos hc];exact .int _ _ _ hy
 |false=>have hc:¬(zy > zx):=of_decide_eq_false e5.symm;rw[if_neg hc];exact .int _ _ _ hx
end
theorem XbY{prog:Program}{w:World}{lower upper:Option Expr}{b:Array UInt8}{l u:Rm}{lo hi:Option Int}{S:Rn}
  (hS:s.heap.IsSliceOf S l u .none)(hl:IsPart l lo)(hu:IsPart u hi)(hz:(KBy.picked b lo hi).size<=sizeLine)(h:∀t' k,Q (.bytes (KBy.picked b lo hi) t') {s with toks:=k}):
  wpAny (model prog w) A (subscriptTail value (.Slice lower upper none p) (.bytes b t) (.ref S)) Q E s:=by
 unfold subscriptTail
 refine Qg ?_
 rw[getitemInPython_of_ne (typeIs_bytes s b t).not_modules]
 refine Qg (wpAny_specialOf (typeIs_bytes s b t) FB.slot_bytes_getitem.lookup ?_)
 have fin:wpAny (model prog w) A (subscripted (.Slice lower upper none p) false (.bytes b t) (.ref S)) (λr s₃=>wpAny (model prog w) A (letTemporaryGo value (.bytes b t) r>>=λ_=>pure r) Q E s₃) E s:=by
  show wpAny _ _ (operate [.ref S,.bytes b t] (getItem (.bytes b t) (.ref S))) _ _ _
  refine wpAny_operating (getItem_meets (typeIs_bytes _ _ _) (by decide) FB.slot_bytes_getitem FB.entry_bytes_getitem (FB.args_bytes_getitem_2 _ _) (KBc.meets_slice2 b t _ hl hu) ⟨hS,hz,λt' k=>?_⟩)
  exact Qg (wpAny_letTemporaryGo (Qh (h t' k)))
 first
  |exact Qh (Qg fin)
  |exact Qg (Qh (Qg fin))
  |exact Qg fin
theorem Xa7(n:Nat)(k:Int):MA n k=clipAt n k:=by
 induction k with
 |ofNat m=>
  rw[show (Int.ofNat m)=((m:Nat):Int) from rfl,clipAt_nat]
  show bc (Nat.ble m n) m n=_
  by_cases h:m<=n
  ·rw[QD h];exact (Nat.min_eq_left h).symm
  ·have:Nat.ble m n=false:=by
    induction q:Nat.ble m n with
    |false=>rfl
    |true=>exact absurd (Qv q) h
   rw[this];exact (Nat.min_eq_right (Nat.le_of_not_le h)).symm
 |negSucc m=>
  have:=clipAt_cast n (.negSucc m)
  have h2:Int.negSucc m < 0:=Int.negSucc_lt_zero m
  rw[if_pos h2] at this
  show n - (m + 1)=_
  omega
def BO(C:Cx)(o:Option LI)(v:Rm)(z:Option Int):Prop:=IsPart v z/\match o,z with
 |none,none=>True
 |some a,some z=>a.val C.ρ=z
 |_,_=>False
theorem Xax{o:Option LI}{v:Rm}{z:Option Int}{m d:Nat}(h:BO C o v z)(e:KJ m d o=some i):i=z.elim d (clipAt m):=by
 obtain ⟨h1,h2⟩:=h
 induction o with
 |none=>
  induction z with
  |none=>obtain rfl:=QV e;rfl
  |some _=>exact h2.elim
 |some a=>
  induction z with
  |none=>exact h2.elim
  |some z=>
   replace e:a.lit?.map (MA m)=some i:=e
   induction q:a.lit? with
   |none=>rw[q] at e;exact Xx e
   |some c=>
    rw[q] at e
    obtain rfl:=QV e
    rw[Xa7]
    show clipAt m c=clipAt m z
    rw[←h2,XH q]
set_option tactic.hygienic true in
theorem Np{Ro Rq σ l s m u x r lo hi lv hv zl zh}{lower upper:Option Expr}(T:At C L Ro Rq σ l s.heap m)(hu:VR C.ρ Ro u x)(e:U1 u lo hi=some r)(h1:BO C lo lv zl)(h2:BO C hi hv zh)
  (h:PE C L Ro Rq s.heap σ l r Q s):
  wpAny (model C.prog C.w) A (subscriptTail value (.Slice lower upper none p) x (.ref s.heap.objs.size)) Q E {s with heap:=s.heap.push {cls:= .type "slice",data:= .fields #[lv,hv,.none]}}:=by
 induction hu<;>try (exact Xx e;done)
 rename_i b t hb
 refine Wg (show bc (XU b) (oc (KJ b.length 0 lo) none λi=>oc (KJ b.length b.length hi) none λj=>some (XnI b i j)) none=some r from e) λe1 e2=>?_
 refine Z8 e2 λi e3 e4=>?_
 refine Z8 e4 λj e5 e6=>?_
 obtain rfl:=QV e6
 have hi1:=Xax h1 e3
 have hj1:=Xax h2 e5
 have hlen:=Yc e1
 have hsz:(b.map Nat.toUInt8).toArray.size=b.length:=by simp
 have hpick:KBy.picked (b.map Nat.toUInt8).toArray zl zh=(((b.take j).drop i).map Nat.toUInt8).toArray:=by
  rw[KBc.picked_eq,hsz,←hi1,←hj1,List.map_drop,List.map_take,List.drop_take]
 refine XbY (Heap.IsSliceOf.new _ _ _ _) h1.1 h2.1 (QH (KBc.size_picked_le _ _ _) (by rw[hsz];show b.length<=sizeLine;unfold sizeLine;lia)) λt' k=>?_
 rw[hpick]
 obtain ⟨G,T'⟩:=T.kept (h':=s.heap.push {cls:= .type "slice",data:= .fields #[lv,hv,.none]}) λb o e=>Qj _ e
 refine h _ k Ro Rq m _ G T' (.bytes _ _ ?_)
 rw[List.all_eq_true] at hb ⊢
 intro z hz
 exact hb z (List.mem_of_mem_take (List.mem_of_mem_drop hz))
theorem W7{x:Rm}{i:LI}(R:VR C.ρ Ro v x)(e:Zl v=some i):∃z,BO C (some i) x (some z):=by
 induction v<;>try (exact Xx e;done)
 obtain rfl:=QV e
 refine R.intF λz t hz=>?_
 exact ⟨z,.int _ _,hz⟩
theorem IH{o:Option V}{s s':St}(h:YS o s= .ok v s'):o=some v/\s=s':=by
 induction o with
 |none=>exact Y3 h
 |some a=>cases h;exact ⟨rfl,rfl⟩
theorem XeF(hx:SE C n L k x (eval e env)):SE C n L k (Zm x none none) (eval (.Subscript e (.Slice none none none p) pos) env):=by
 intro A g Ro Rq σ l s m v σ' T e' Q E h
 refine Js e' λu σ1 e1 e2=>?_
 obtain ⟨e3,rfl⟩:=IH e2
 refine Subscript_ (hx A g _ _ _ _ _ _ _ _ T e1 _ _ λh1 t1 Ru Rv m1 v1 G1 T1 R1=>?_)
 exact wpAny_Slice (Qh (Qh (Qh (Np (s:={s with heap:=h1,toks:=t1}) T1 R1 e3 ⟨.none,trivial⟩ ⟨.none,trivial⟩ (h.step G1)))))
theorem XeH{a:M}{f:Expr}(hx:SE C n L k x (eval e env))(ha:SE C n L k a (eval f env)):SE C n L k (Zm x (some a) none) (eval (.Subscript e (.Slice (some f) none none p) pos) env):=by
 intro A g Ro Rq σ l s m v σ' T e' Q E h
 refine Js e' λu σ1 e1 e2=>?_
 refine Js (show (a k l σ1).to .no (λi s=>oc (Zl i) .no λi=>YS (U1 u (some i) none) s)= .ok v σ' from e2) λi σ2 e3 e4=>?_
 refine WA e4 λz e5 e6=>?_
 obtain ⟨e7,rfl⟩:=IH e6
 refine Subscript_ (hx A g _ _ _ _ _ _ _ _ T e1 _ _ λh1 t1 Ru Rv m1 v1 G1 T1 R1=>?_)
 refine wpAny_Slice (ha A g _ _ _ _ {s with heap:=h1,toks:=t1} _ _ _ T1 e3 _ _ λh2 t2 Rz RA m2 v2 G2 T2 R2=>Qh (Qh ?_))
 obtain ⟨z',hz⟩:=W7 R2 e5
 exact Np (s:={s with heap:=h2,toks:=t2}) T2 (R1.mono G2.pre) e7 hz ⟨.none,trivial⟩ (h.step (G1.trans G2))
theorem XeG{b:M}{f:Expr}(hx:SE C n L k x (eval e env))(hb:SE C n L k b (eval f env)):SE C n L k (Zm x none (some b)) (eval (.Subscript e (.Slice none (some f) none p) pos) env):=by
 intro A g Ro Rq σ l s m v σ' T e' Q E h
 refine Js e' λu σ1 e1 e2=>?_
 refine Js (show (b k l σ1).to .no (λj s=>oc (Zl j) .no λj=>YS (U1 u none (some j)) s)= .ok v σ' from e2) λi σ2 e3 e4=>?_
 refine WA e4 λz e5 e6=>?_
 obtain ⟨e7,rfl⟩:=IH e6
 refine Subscript_ (hx A g _ _ _ _ _ _ _ _ T e1 _ _ λh1 t1 Ru Rv m1 v1 G1 T1 R1=>?_)
 refine wpAny_Slice (Qh (hb A g _ _ _ _ {s with heap:=h1,toks:=t1} _ _ _ T1 e3 _ _ λh2 t2 Rz RA m2 v2 G2 T2 R2=>Qh ?_))
 obtain ⟨z',hz⟩:=W7 R2 e5
 exact Np (s:={s with heap:=h2,toks:=t2}) T2 (R1.mono G2.pre) e7 ⟨.none,trivial⟩ hz (h.step (G1.trans G2))
theorem XeI{a b:M}{f f':Expr}(hx:SE C n L k x (eval e env))(ha:SE C n L k a (eval f env))(hb:SE C n L k b (eval f' env)):SE C n L k (Zm x (some a) (some b)) (eval (.Subscript e (.Slice (some f) (some f') none p) pos) env):=by
 intro A g Ro Rq σ l s m v σ' T e' Q E h
 refine Js e' λu σ1 e1 e2=>?_
 refine Js (show (a k l σ1).to .no (λi s=>oc (Zl i) .no λi=>(b k l s).to .no λj s=>oc (Zl j) .no λj=>YS (U1 u (some i) (some j)) s)= .ok v σ' from e2) λi σ2 e3 e4=>?_
 refine WA e4 λz e5 e6=>?_
 refine Js e6 λj σ3 e7 e8=>?_
 refine WA e8 λz' e9 e10=>?_
 obtain ⟨e11,rfl⟩:=IH e10
 refine Subscript_ (hx A g _ _ _ _ _ _ _ _ T e1 _ _ λh1 t1 Ru Rv m1 v1 G1 T1 R1=>?_)
 refine wpAny_Slice (ha A g _ _ _ _ {s with heap:=h1,toks:=t1} _ _ _ T1 e3 _ _ λh2 t2 Rz RA m2 v2 G2 T2 R2=>?_)
 refine hb A g _ _ _ _ {s with heap:=h2,toks:=t2} _ _ _ T2 e7 _ _ λh3 t3 RB RC m3 v3 G3 T3 R3=>Qh ?_
 obtain ⟨z1,hz⟩:=W7 (R2.mono G3.pre) e5
 obtain ⟨z2,hz'⟩:=W7 R3 e9
 exact Np (s:={s with heap:=h3,toks:=t3}) T3 (R1.mono (G2.pre.trans G3.pre)) e11 hz hz' (h.step (G1.trans (G2.trans G3)))
theorem Xbl:∀(l:List (Array α))(a:Array α),(List.foldl (λx y=>x++y) a l).toList=a.toList++(l.map Array.toList).flatten:=by
 intro ux
 induction ux with
 |nil=>
  intro a
  simp
 |cons x r ih=>
  intro a
  rw[List.foldl_cons,ih];simp
theorem YH.rep{u:List V}{v:List Rm}(x:YH ρ Ro u v):∀n:Nat,YH ρ Ro (List.flatten (List.replicate n u)) (List.flatten (List.replicate n v))
 | 0=> .nil
 |n + 1=>by rw[List.replicate_succ,List.replicate_succ,List.flatten_cons,List.flatten_cons];exact x.app (x.rep n)
set_option tactic.hygienic true in
theorem XcW:Xcd C k.G:=by
 intro A n g L Ro Rq σ l s m op o i v x y r σ' ho T e hx hy Q E h
 refine hx.refE λa ha=>?_
 induction hy<;>try (exact Y3 e;done)
 ·rename_i z zv t hz
  refine Ny (show bc (Nat.beq o 2) (XpM σ z.lit? (σ.get i)) Xu.no= .ok r σ' from e) λe1 e2=>?_
  clear e
  have:=Qi e1
  subst this
  have hop:op= .Mult:=by cases op<;>first |rfl |cases ho
  subst hop
  induction q:σ.get i with
  |none=>rw[q] at e2;exact Y3 e2
  |some ob=>
   rw[q] at e2
   refine YO (T.rp.obj i _ q) λa' f1 f2 f3=>?_
   rw[ha] at f1;obtain rfl:=QV f1
   refine Zx λ_ kk=>?_
   induction ob<;>first |exact Y3 e2 |(refine kk ?_;clear kk)
   rename_i xs
   refine Y5 f3 λvs n1 g1 g2=>?_
   induction q2:z.lit? with
   |none=>rw[q2] at e2;exact Y3 e2
   |some c=>
    rw[q2] at e2
    induction c with
    |negSucc _=>exact Y3 e2
    |ofNat c=>
     refine Ny (show bc (Nat.ble c 60) (Nd σ (List.flatten (List.replicate c xs))) .no= .ok r σ' from e2) λe3 e4=>?_
     refine Ny (show bc (XU (List.flatten (List.replicate c xs))) (UU σ (.list (List.flatten (List.replicate c xs)))) .no= .ok r σ' from e4) λe5 e6=>?_
     replace h:=h.eq e6
     have hc:=Qv e3
     have hzc:zv=((c:Nat):Int):=by rw[←hz,XH q2];rfl
     subst hzc
     have hl:=g2.length
     have hlen:=Yc e5
     have hR:=g2.rep c
     have hlR:=hR.length
     have key:(List.foldl (λx1 x2=>x1++x2) #[] (List.replicate (if vs.toArray.isEmpty=true then 0 else ((c:Nat):Int).toNat) vs.toArray))=(List.flatten (List.replicate c vs)).toArray:=by
      apply Array.toList_inj.mp
      rw[Xbl]
      induction vs with
      |nil=>simp
      |cons v0 r0=>rw[if_neg (by simp)];simp
     have hsz:vs.toArray.size * ((c:Nat):Int).toNat<=2 ^ 24:=by
      rw[Qx,Int.toNat_natCast]
      have:(List.flatten (List.replicate c vs)).length=c * vs.length:=by simp [List.length_flatten]
      rw[Nat.mul_comm,←this,←hlR];lia
     refine mul_list T.fr (XO _ _ _) g1 (by lia) (by lia) hsz λh' F' N'=>?_
     rw[key] at N'
     refine YO (At.new T F' N' (o:= .list (List.flatten (List.replicate c xs))) λRt e=>⟨_,0,e,hR.mono (Qr _ _)⟩) λRt G T' hn=>?_
     exact h h' s.toks _ Rt m _ G T' (.ref _ _ hn)
 ·rename_i j b hb
  refine Ny (show bc (Nat.beq o 0) (Xkx σ (σ.get i) (σ.get j)) Xu.no= .ok r σ' from e) λe1 e2=>?_
  clear e
  have:=Qi e1
  subst this
  have hop:op= .Add:=by cases op<;>first |rfl |cases ho
  subst hop
  induction q:σ.get i with
  |none=>rw[q] at e2;exact Y3 e2
  |some ob=>
   induction q2:σ.get j with
   |none=>rw[q,q2] at e2;induction ob<;>exact Y3 e2
   |some ob2=>
    rw[q,q2] at e2
    refine YO (T.rp.obj i _ q) λa' f1 f2 f3=>?_
    rw[ha] at f1;obtain rfl:=QV f1
    refine YO (T.rp.obj j _ q2) λb' f4 f5 f6=>?_
    rw[hb] at f4;obtain rfl:=QV f4
    induction ob<;>try (exact Y3 e2;done)
    induction ob2<;>try (exact Y3 e2;done)
    rename_i xs ys
    refine Y5 f3 λvs n1 g1 g2=>?_
    refine Y5 f6 λws n2 g3 g4=>?_
    refine Ny (show bc (XU (xs++ys)) (UU σ (.list (xs++ys))) .no= .ok r σ' from e2) λe3 e4=>?_
    replace h:=h.eq e4
    have hlen:=Yc e3
    rw[Qw] at hlen
    have:=g2.length
    have:=g4.length
    refine add_lists T.fr (XO _ _ _) ⟨_,g1,rfl,n1,rfl⟩ ⟨_,g3,rfl,n2,rfl⟩ (λh' F' N'=>?_) (by show vs.length + ws.length<=sizeLine;unfold sizeLine;lia)
    refine YO (At.new T F' N' (o:= .list (xs++ys)) λRt e=>⟨_,0,e,(g2.app g4).mono (Qr _ _)⟩) λRt G T' hn=>?_
    exact h h' s.toks _ Rt m _ G T' (.ref _ _ hn)
theorem UH{id:String}{a:Expr}(hs:Ys (a::r)=true)
  (h:wpAny (model C.prog C.w) A (spliced (backTo pos (starEach (a::r) env))) (λvs s₁=>wpAny (model C.prog C.w) A (call (.builtin id) (first++vs)) Q E s₁) E s):wpAny (model C.prog C.w) A (callWith pos (.builtin id) first (backTo pos (starEach (a::r) env)) []) Q E s:=by
 refine b2 (show (Y9 a&&Ys r)=true from hs) λh1 h2=>?_
 rw[XX h1] at h ⊢
 exact Calls.callWith_builtin (by show (false||(backTo pos (starEach r env)).any (·.1))=false;rw[Jd h2];rfl) (evalArgs_plain h)
theorem JM{id:String}{n1:Nat}{Q:Rm×List Rm->Rk->Prop}{E}(slot:Slot "list" name id)(hty:typeOf (.builtin id)=pure (.type "method_descriptor"))
  (h1:s.heap.get? a=some (Yp "list" vs n1))(h:Q (.builtin id,[.ref a]) s):wpAny (model C.prog C.w) A (getMethod (.ref a) name pl) Q E s:=
 getMethod_list_of (items:=vs.toArray) slot hty ⟨_,h1,rfl,n1,rfl⟩ ⟨_,h1,rfl⟩ h
theorem Xfm{o:Obj}:∀{l:List (Rn×Obj)},(l.map (·.1)).Nodup->(d,o)∈l->UpdF d o l (λo'=>l.map λp=>if p.1=d then (d,o') else p):=by
 intro ux
 induction ux with
 |cons p r ih=>
  intro hn hm
  have hx:=List.nodup_cons.mp hn
  by_cases hp:p.1=d
  ·have hpo:p=(d,o):=by
    rcases Qe hm with e |e
    ·exact e.symm
    ·exact absurd (Qc ⟨_,e,hp.symm⟩) hx.1
   have hr:∀q∈r,q.1≠d:=λq hq e=>hx.1 (Qc ⟨q,hq,e.trans hp.symm⟩)
   have e:∀o',r.map (λp=>if p.1=d then (d,o') else p)=r:=λo'=>by
    conv=>rhs;rw[←List.map_id r]
    exact List.map_congr_left λq hq=>if_neg (hr q hq)
   have:(λo'=>(p::r).map λp=>if p.1=d then (d,o') else p)=λo'=>(d,o')::r:=by
    funext o'
    rw[QJ,e,if_pos hp]
   rw[this,hpo]
   exact .head hr
  ·have:(λo'=>(p::r).map λp=>if p.1=d then (d,o') else p)=λo'=>p::r.map λp=>if p.1=d then (d,o') else p:=by
    funext o'
    rw[QJ,if_neg hp]
   rw[this]
   refine .tail hp (ih hx.2 ?_)
   rcases Qe hm with e |e
   ·exact absurd (congrArg (·.1) e).symm hp
   ·exact e
 |nil=>
  intro v0 v1
  contradiction
theorem Dv{o:Obj}(e:h.get? d=some o)(hL:d≠L)(h0:H0.get? d=none):UpdF d o (WN H0 L h) (λo'=>Xb8 H0 L h d o'):=
 Xfm (Oc _ _ _) (Y1.mpr ⟨e,hL,h0⟩)
section
theorem At.ownd(T:At C L Ro Rq σ l h m)(ha:Rq a=some i):a≠L/\C.H0.get? a=none:=by
 refine ⟨?_,?_⟩
 ·rintro rfl;rw[T.ownL] at ha;exact Xx ha
 ·induction q:C.H0.get? a with
  |none=>rfl
  |some o=>rw[T.rp.old a o q] at ha;exact Xx ha
theorem XaU{Ro Rq σ l s m i a xs v x}(T:At C L Ro Rq σ l s.heap m)(ha:Ro[i]?=some a)(q:σ.get i=some (.list xs))(hl:XU xs=true)(hv:VR C.ρ Ro v x){E}
  (h:PE C L Ro Rq s.heap (σ.put i (.list (xs++[v]))) l .none Q s):wpAny (model C.prog C.w) A (call (.builtin "list.append") [.ref a,x]) Q E s:=by
 refine YO (T.rp.obj i _ q) λa' f1 f2 zz1=>?_;refine Y5 zz1 λvs n1 g1 g2=>?_
 rw[ha] at f1;obtain rfl:=QV f1
 have hlen:=Yc hl
 have:=g2.length
 obtain ⟨hL,h0⟩:=T.ownd f2
 refine append_K (n:=n1) (its:=vs.toArray) T.fr (XO _ _ _) (U5 g1 hL h0) (λh' F' N'=>?_) (by rw[Qx];show vs.length<=sizeLine;unfold sizeLine;lia)
 obtain ⟨G,T'⟩:=At.put (x:= .list (xs++[v])) T ha f2 g1 F' N' λe=>⟨vs++[x],n1 + 1,by rw[e];simp,g2.app (.cons hv .nil)⟩
 exact h h' s.toks Ro Rq m _ G T' .none
theorem Xbi{Ro Rq σ l s m i j a b xs ys}(T:At C L Ro Rq σ l s.heap m)(ha:Ro[i]?=some a)(q:σ.get i=some (.list xs))(hb:Ro[j]?=some b)(q2:σ.get j=some (.list ys))(hl:XU (xs++ys)=true){E}
  (h:PE C L Ro Rq s.heap (σ.put i (.list (xs++ys))) l .none Q s):wpAny (model C.prog C.w) A (call (.builtin "list.extend") [.ref a,.ref b]) Q E s:=by
 refine YO (T.rp.obj i _ q) λa' f1 f2 zz2=>?_;refine Y5 zz2 λvs n1 g1 g2=>?_
 rw[ha] at f1;obtain rfl:=QV f1
 refine YO (T.rp.obj j _ q2) λb' f3 f4 zz3=>?_;refine Y5 zz3 λws n2 g3 g4=>?_
 rw[hb] at f3;obtain rfl:=QV f3
 have hlen:=Yc hl
 rw[Qw] at hlen
 have l1:=g2.length
 have l2:=g4.length
 obtain ⟨hL,h0⟩:=T.ownd f2
 obtain ⟨hL2,h02⟩:=T.ownd f4
 have hd:¬(!vs.toArray.isEmpty&&Builtin.List.listTooLong (vs.toArray.size + ws.toArray.size))=true:=by
  rw[Qx,Qx]
  simp [Builtin.List.listTooLong,sizeLine]
  intro _;lia
 induction ws with
 |nil=>
  refine kxn_extend (its:=vs.toArray) (its2:=#[]) (n:=n1) (n2:=n2) T.fr (XO _ _ _) (Y1.mpr ⟨g3,hL2,h02⟩) rfl (U5 g1 hL h0) (by simpa using hd) (by show vs.length<=sizeLine;unfold sizeLine;lia) (by rw[Qx];show vs.length + 0<=sizeLine + 1;unfold sizeLine;lia) λh' F' N'=>?_
  have hys:ys=[]:=by induction ys with |nil=>rfl |cons _ _=>cases l2
  subst hys
  obtain ⟨G,T'⟩:=At.put (x:= .list (xs++[])) T ha f2 g1 F' N' λe=>⟨vs,n1,e,by rw[List.append_nil];exact g2⟩
  exact h h' s.toks Ro Rq m _ G T' .none
 |cons w0 wr=>
  refine kl_extend (its:=vs.toArray) (its2:=(w0::wr).toArray) (n:=n1) (n2:=n2) (l:=vs++(w0::wr)) T.fr (XO _ _ _) (Y1.mpr ⟨g3,hL2,h02⟩) rfl nofun (U5 g1 hL h0) hd (by show vs.length<=sizeLine;unfold sizeLine;lia) (by rw[Qx,Qx];show vs.length + (w0::wr).length<=sizeLine + 1;unfold sizeLine;lia) λh' F' N'=>?_
  obtain ⟨G,T'⟩:=At.put (x:= .list (xs++ys)) T ha f2 g1 F' N' λe=>⟨vs++(w0::wr),n1 + 1,e,g2.app g4⟩
  exact h h' s.toks Ro Rq m _ G T' .none
theorem BQ{r:List V}{g:Prop}(h:UF (v::r)=true)(f:∀i,v= .int i->UF r=true->g):g:=iKE h Ri f
theorem XaS:∀{xs:List V}{vs:List Rm},YH C.ρ Ro xs vs->UF xs=true->kf_ints vs=true:=by
 intro xs
 induction xs with
 |nil=>intro vs R _;refine R.nilE ?_;rfl
 |cons v xs ih=>
  intro vs R h
  refine BQ h λi e h=>?_
  subst e
  refine R.int1E λz t ws hz R2=>?_
  exact (ih R2 h:kf_ints ws=true)
set_option tactic.hygienic true
theorem Xhs{c:Int}:∀{xs ys:List V}{vs:List Rm},YH C.ρ Ro xs vs->UF xs=true->Bs c xs=some ys->kf_ints vs=true/\∃j ws,kf_at c vs=some j/\ki_delL vs j=some ws/\YH C.ρ Ro ys ws:=by
 intro xs
 induction xs with
 |nil=>intro ys vs R _ e;exact Xx e
 |cons v xs ih=>
  intro ys vs R hi e
  refine BQ hi λi e0 hi'=>?_
  subst e0
  refine R.int1E λz t vs hz R2=>?_
  have hint:kf_ints (.int z t::vs)=true:=show kf_ints vs=true from XaS R2 hi'
  refine Z8 e λd q e=>?_
  have hzd:z=d:=by rw[←hz,XH q]
  subst hzd
  refine GK e (λhc e9=>?_) λhc e=>?_
  ·have hc:=Qt hc
   subst hc
   obtain rfl:=QV e9
   have hk:isInt z (.int z t)=true:=by simp [isInt]
   refine ⟨hint,0,vs,?_,rfl,R2⟩
   unfold kf_at
   rw[hk];rfl
  ·have hc:=of_decide_eq_false hc
   refine Z8 e λys' q2 e=>?_
   obtain rfl:=QV e
   refine Iv (ih R2 hi' q2) λh1 zz4=>?_;refine UB zz4 λj ws h2 h3 h4=>?_
   have hk:isInt c (.int z t)=false:=by simp [isInt,hc]
   refine ⟨hint,j + 1,.int z t::ws,?_,?_,.cons (.int _ _ _ hz) h4⟩
   ·unfold kf_at
    rw[hk,h2];rfl
   ·unfold ki_delL
    rw[h3]
theorem XbU{Ro Rq σ l s m i a xs ys v x}(T:At C L Ro Rq σ l s.heap m)(ha:Ro[i]?=some a)(q:σ.get i=some (.list xs))(hv:VR C.ρ Ro v x)(e:XpL v xs=some ys){E}
  (h:PE C L Ro Rq s.heap (σ.put i (.list ys)) l .none Q s):wpAny (model C.prog C.w) A (call (.builtin "list.remove") [.ref a,x]) Q E s:=by
 refine iKE e nS λz zz0 e=>Z8 e λc q2 e=>Wg e λe1 e2=>?_
 subst zz0
 refine hv.intF λzv t hz=>?_
 ·skip
  refine b2 e1 λe3 e4=>?_
  have hzc:zv=c:=by rw[←hz,XH q2]
  subst hzc
  refine YO (T.rp.obj i _ q) λa' f1 f2 zz6=>?_;refine Y5 zz6 λvs n1 g1 g2=>?_
  rw[ha] at f1;obtain rfl:=QV f1
  have hlen:=Yc e3
  have l1:=g2.length
  obtain ⟨hL,h0⟩:=T.ownd f2
  refine Iv (Xhs g2 e4 e2) λh1 zz7=>?_;refine UB zz7 λj ws h2 h3 h4=>?_
  refine kf_remove (its:=vs.toArray) (n:=n1) T.fr (XO _ _ _) h1 h2 h3 (U5 g1 hL h0) (by show vs.length<=sizeLine;unfold sizeLine;lia) λh' F' N'=>?_
  obtain ⟨G,T'⟩:=At.put (x:= .list ys) T ha f2 g1 F' N' λe=>⟨ws,n1 + 1,e,h4⟩
  exact h h' s.toks Ro Rq m _ G T' .none
set_option tactic.hygienic false
theorem DB.del{l:List (Int×V)}(I:DB ρ Ro l kvs)(hn:(kvs.map (·.1)).Nodup)(c:Int):DB ρ Ro (Ij l c) (without kvs c):=by
 induction I with
 |nil=>exact .nil
 | @cons k v l y es hv I ih=>
  have hx:=List.nodup_cons.mp hn
  by_cases h:k=c
  ·subst h
   have e1:Ij ((k,v)::l) k=l:=by show bc (decide (k=k)) _ _=_;rw[Qo rfl]
   have e2:without ((k,y)::es) k=es:=by
    have:without es k=es:=without_of_not_mem es k hx.1
    unfold without at this ⊢
    rw[List.filter_cons,if_neg (by simp),this]
   rw[e1,e2];exact I
  ·have e1:Ij ((k,v)::l) c=(k,v)::Ij l c:=by show bc (decide (k=c)) _ _=_;rw[Qn h]
   have e2:without ((k,y)::es) c=(k,y)::without es c:=by unfold without;rw[List.filter_cons,if_pos (by simpa using h)]
   rw[e1,e2];exact .cons hv (ih hx.2)
theorem DB.put{l:List (Int×V)}(I:DB ρ Ro l kvs)(hn:(kvs.map (·.1)).Nodup)(c:Int){y:Rm}(hv:VR ρ Ro v y):DB ρ Ro (Iq l c v) (stored kvs c y):=by
 induction I with
 |nil=>exact .cons hv .nil
 | @cons k u l z es hu I ih=>
  have hx:=List.nodup_cons.mp hn
  by_cases h:k=c
  ·subst h
   have e1:Iq ((k,u)::l) k v=(k,v)::l:=by show bc (decide (k=k)) _ _=_;rw[Qo rfl]
   have e2:stored ((k,z)::es) k y=(k,y)::es:=by
    unfold stored
    rw[if_pos (by simp),QJ,if_pos rfl]
    congr 1
    conv=>rhs;rw[←List.map_id es]
    refine List.map_congr_left λq hq=>if_neg ?_
    rintro rfl
    exact hx.1 (Qc ⟨q,hq,rfl⟩)
   rw[e1,e2];exact .cons hv I
  ·have e1:Iq ((k,u)::l) c v=(k,u)::Iq l c v:=by show bc (decide (k=c)) _ _=_;rw[Qn h]
   have e2:stored ((k,z)::es) c y=(k,z)::stored es c y:=by
    unfold stored
    rw[List.any_cons,Qn h,Bool.false_or]
    split
    ·rw[QJ,if_neg h]
    ·rfl
   rw[e1,e2];exact .cons hu (ih hx.2)
theorem XkR{p p':Program}{w w':World}{o:Obj}(h:o.IsDictOf (PySem.intKind p w) kvs):o.IsDictOf (PySem.intKind p' w') kvs:=by
 refine Gw h λes ep h1 h2 h3 h4 h5=>?_
 refine ⟨es,ep,h1,h2,h3,?_,h5⟩
 have:∀{es:List DictEntry}{kvs:List (Int×Rm)},Pairs (PySem.intKind p w) es kvs->Pairs (PySem.intKind p' w') es kvs:=λh=>by
  induction h with
  |nil=>exact .nil
  |cons a b _ ih=>exact .cons a b ih
 exact this h4
theorem Xlm{Ro Rq σ l s m i a xs c z t v}(T:At C L Ro Rq σ l s.heap m)(ha:Ro[i]?=some a)(q:σ.get i=some (.idict xs))(hz:z=c)(hl:XU xs=true)(e:Y8 xs c=some v){E}
  (h:PE C L Ro Rq s.heap (σ.put i (.idict (Ij xs c))) l v Q s):wpAny (model C.prog C.w) A (call (.builtin "dict.pop") [.ref a,.int z t]) Q E s:=by
 subst hz
 refine x14 (T.rp.obj i _ q) λa' f1 f2 hsys zz8=>?_;refine UB zz8 λo kvs g1 g2 g3=>?_
 rw[ha] at f1;obtain rfl:=QV f1
 obtain ⟨hL,h0⟩:=T.ownd f2
 have hlk:=g3.look z
 refine YB (hlk.1 v e) λy e1 e2=>?_
 have hlen:=Yc hl
 rw[hlk.2.2.1] at hlen
 have hnd:(kvs.map (·.1)).Nodup:=by refine Gw (g2 C.prog C.w) λ_ _ _ _ _ _ hn=>?_;exact hn
 refine kob_pop (knd:=PySem.intKind C.prog C.w) (more:=[]) T.fr (XO _ _ _) (Dv g1 hL h0) (g2 _ _) (intKind_is _ _ _ _) (.inl rfl) rfl (PySem.F.args_dict_pop_2 _ _) e1 (by unfold sizeLine;lia) λh' o' F' N' hd'=>?_
 obtain ⟨G,T'⟩:=At.put (x:= .idict (Ij xs z)) T ha f2 g1 F' N' λe=>⟨hsys,o',_,e,λp w=>XkR hd',g3.del hnd z⟩
 exact h h' _ Ro Rq m _ G T' (e2.mono Qy)
theorem XdV{Ro Rq σ l s m i a xs c z t v y}(T:At C L Ro Rq σ l s.heap m)(ha:Ro[i]?=some a)(q:σ.get i=some (.idict xs))(hz:z=c)(hl:XU xs=true)(hv:VR C.ρ Ro v y){Q:Unit->Rk->Prop}{E}
  (h:∀h' t',XJ (·=L) Ro Rq s.heap Ro Rq h'->At C L Ro Rq (σ.put i (.idict (Iq xs c v))) l h' m->Q () {s with heap:=h',toks:=t'}):wpAny (model C.prog C.w) A (setItem (.ref a) (.int z t) y) Q E s:=by
 subst hz
 refine x14 (T.rp.obj i _ q) λa' f1 f2 hsys zz9=>?_;refine UB zz9 λo kvs g1 g2 g3=>?_
 rw[ha] at f1;obtain rfl:=QV f1
 obtain ⟨hL,h0⟩:=T.ownd f2
 have hlen:=Yc hl
 rw[(g3.look z).2.2.1] at hlen
 have hnd:(kvs.map (·.1)).Nodup:=by refine Gw (g2 C.prog C.w) λ_ _ _ _ _ _ hn=>?_;exact hn
 refine kda_set (knd:=PySem.intKind C.prog C.w) T.fr (XO _ _ _) (Dv g1 hL h0) (g2 _ _) (intKind_is _ _ _ _) (by unfold sizeLine;lia) λh' o' F' N' hd'=>?_
 obtain ⟨G,T'⟩:=At.put (x:= .idict (Iq xs z v)) T ha f2 g1 F' N' λe=>⟨hsys,o',_,e,λp w=>XkR hd',g3.put hnd z hv⟩
 exact h h' _ G T'
end
section
theorem Xj5:Zc[0]?=some ("append":Str):=rfl
theorem Xj6:Zc[1]?=some ("extend":Str):=rfl
theorem Xj8:Zc[2]?=some ("remove":Str):=rfl
theorem Xj7:Zc[3]?=some ("pop":Str):=rfl
set_option tactic.hygienic true
theorem Bd(g:YK A n){Ro Rq σ l s m j a i nm v σ' xs us σ1}{y:ML}(hs:Ys args=true)(hy:SL C n L k y (spliced (backTo pos (starEach args env))))(h0:args=[]->y=Xe)
  (T:At C L Ro Rq σ l s.heap m)(ha:Ro[j]?=some a)(hn:Zc[i]?=some nm)(q:σ.get j=some (.list xs))(e1:y k l σ= .ok us σ1)(e:WW j i us σ1 (σ1.get j)= .ok v σ')
  {E}(h:PE C L Ro Rq s.heap σ' l v Q s):
  wpAny (model C.prog C.w) A (getMethod (.ref a) nm pl) (λfx s₂=>wpAny (model C.prog C.w) A (callWith pos fx.1 fx.2 (backTo pos (starEach args env)) []) Q E s₂) E s:=by
 refine YO (T.rp.obj j _ q) λa' f1 f2 zz1=>?_;refine Y5 zz1 λvs n1 g1 g2=>?_
 rw[ha] at f1;obtain rfl:=QV f1
 refine lKE e nR λxs1 q1 e=>?_
 have hc:args≠[]:=λha=>by
  rw[h0 ha] at e1
  cases e1
  refine XfR e (λ_ e=>?_) λe=>XfR e (λ_ e=>?_) λe=>Ny e λ_ e=>?_
  all_goals exact Y3 e
 have run:∀id:String,(∀(us':List Rm)(h1:Heap)(t1:Nat)(Ru:List Rn)(Rv:Rn->Option Nat)(m1:Str->Option Rm),XJ (·=L) Ro Rq s.heap Ru Rv h1->At C L Ru Rv σ1 l h1 m1->YH C.ρ Ru us us'->wpAny (model C.prog C.w) A (call (.builtin id) (.ref a::us')) Q E {s with heap:=h1,toks:=t1})->
   wpAny (model C.prog C.w) A (callWith pos (.builtin id) [.ref a] (backTo pos (starEach args env)) []) Q E s:=λid H=>by
  induction args with
  |nil=>exact absurd rfl hc
  |cons b r=>exact UH hs (hy A g _ _ _ _ _ _ _ _ T e1 _ _ λh1 t1 Ru Rv m1 us' G1 T1 R1=>H us' h1 t1 Ru Rv m1 G1 T1 R1)
 refine XfR e (λi0 e=>?_) λe=>XfR e (λi0 e=>?_) λe=>Ny e λi0 e=>?_
 ·rw[Qi i0,Xj5] at hn;obtain rfl:=QV hn
  refine h1E e nR λv0 zz5 e7=>?_;subst zz5
  refine Ny e7 λe2 e3=>?_
  replace h:=h.eq e3
  refine JM PySem.F.slot_list_append type_list_append g1 (run _ λus' h1 t1 Ru Rv m1 G1 T1 R1=>?_)
  refine R1.consE λ_ _ hv R1=>?_
  refine R1.nilE ?_;exact XaU (s:={s with heap:=h1,toks:=t1}) T1 (Yb G1.pre ha) q1 e2 hv (h.step G1)
 ·rw[Qi i0,Xj6] at hn;obtain rfl:=QV hn
  refine h1E e nR λv0 zz5 e7=>?_;subst zz5
  refine rKE e7 nR λz zz6 e8=>?_;subst zz6
  induction q2:σ1.get z with
  |none=>rw[q2] at e8;exact Y3 e8
  |some o2=>
   rw[q2] at e8
   refine Zx λ_ kk=>?_
   induction o2<;>first |exact Y3 e8 |(refine kk ?_;clear kk)
   rename_i ys
   refine Ny (show bc (XU (xs1++ys)) (.ok .none (σ1.put j (.list (xs1++ys)))) .no=Xu.ok v σ' from e8) λe2 e3=>?_
   replace h:=h.eq e3
   refine JM PySem.F.slot_list_extend PySem.F.type_list_extend g1 (run _ λus' h1 t1 Ru Rv m1 G1 T1 R1=>?_)
   refine R1.consE λ_ _ hv R1=>?_
   refine R1.nilE ?_
   refine hv.refE λb hb=>?_
   exact Xbi (s:={s with heap:=h1,toks:=t1}) T1 (Yb G1.pre ha) q1 hb q2 e2 (h.step G1)
 ·rw[Qi i0,Xj8] at hn;obtain rfl:=QV hn
  refine h1E e nR λv0 zz5 e7=>?_;subst zz5
  refine WA e7 λys e2 e3=>?_
  replace h:=h.eq e3
  refine JM PySem.F.slot_list_remove PySem.F.type_list_remove g1 (run _ λus' h1 t1 Ru Rv m1 G1 T1 R1=>?_)
  refine R1.consE λ_ _ hv R1=>?_
  refine R1.nilE ?_;exact XbU (s:={s with heap:=h1,toks:=t1}) T1 (Yb G1.pre ha) q1 hv e2 (h.step G1)
theorem Bb(g:YK A n){Ro Rq σ l s m j a i nm v σ' xs us σ1}{y:ML}(hs:Ys args=true)(hy:SL C n L k y (spliced (backTo pos (starEach args env))))(h0:args=[]->y=Xe)
  (T:At C L Ro Rq σ l s.heap m)(ha:Ro[j]?=some a)(hn:Zc[i]?=some nm)(q:σ.get j=some (.idict xs))(e1:y k l σ= .ok us σ1)(e:Iz j i us σ1 (σ1.get j)= .ok v σ')
  {E}(h:PE C L Ro Rq s.heap σ' l v Q s):
  wpAny (model C.prog C.w) A (getMethod (.ref a) nm pl) (λfx s₂=>wpAny (model C.prog C.w) A (callWith pos fx.1 fx.2 (backTo pos (starEach args env)) []) Q E s₂) E s:=by
 refine x14 (T.rp.obj j _ q) λa' f1 f2 hsys zz2=>?_;refine UB zz2 λo kvs g1 g2 g3=>?_
 rw[ha] at f1;obtain rfl:=QV f1
 obtain ⟨hL,hH⟩:=T.ownd f2
 induction q1:σ1.get j with
 |none=>rw[q1] at e;exact Y3 e
 |some o1=>
  rw[q1] at e
  refine Zx λ_ kk=>?_
  induction o1<;>first |exact Y3 e |(refine kk ?_;clear kk)
  rename_i xs1
  refine Ny e λi0 e=>?_
  rw[Qi i0,Xj7] at hn;obtain rfl:=QV hn
  refine h1E e nR λv0 zz5 e7=>?_;subst zz5
  refine iKE e7 nR λz zz6 e8=>?_;subst zz6
  refine WA e8 λc e2 e3=>?_
  refine Ny e3 λe4 e5=>?_
  refine WA e5 λv' hv e5=>?_
  ·replace h:=h.eq e5
   induction args with
   |nil=>rw[h0 rfl] at e1;cases e1
   |cons b r=>
    refine kob_method (knd:=PySem.intKind C.prog C.w) PySem.F.slot_dict_pop PySem.F.type_dict_pop (XO C.H0 L s.heap) (Y1.mpr ⟨g1,hL,hH⟩) (g2 _ _) ?_
    refine UH hs (hy A g _ _ _ _ _ _ _ _ T e1 _ _ λh1 t1 Ru Rv m1 us' G1 T1 R1=>?_)
    refine x33 R1.int1 λzv t ws zz5 hz R=>?_;subst zz5
    refine R.nilE ?_
    exact Xlm (s:={s with heap:=h1,toks:=t1}) T1 (Yb G1.pre ha) q1 (by rw[←hz,XH e2]) e4 hv (h.step G1)
set_option tactic.hygienic false
theorem BJ{es:List (Int×LI×Int)}{r:Option LI}{g:Int}(x:WR ρ Rq h i a es r g){z:Nat}(hm:Xh Jx.meths z=some f)(hn:Zc[z]?=some nm):
  ∃dx es' n',h.get? a=some (instObj 842 dx)/\h.get? dx=some (dictOf es' n')/\getL nm es'=some none/\InstAt h a (instObj 842 dx) 842 (some (dictOf es' n')):=by
 refine x36 x λρw adw rs l h1 h2 h3 h4 h5=>?_
 refine YB (h5 1 _ rfl) λb e1 zz6=>?_;refine YB zz6 λdx e2 e3=>?_
 rw[h4] at e1;obtain rfl:=QV e1
 refine YB (h5 0 _ rfl) λdx' e4 zz7=>?_;refine UB zz7 λes' n' e5 e6 e7=>?_
 rw[e2] at e4;obtain rfl:=QV e4
 refine ⟨dx,es',n',e3,e5,(e6.got hn).2.1 ?_,e3,rfl,rfl,e5⟩
 have key:(Jx.meths.all λp=>(Xh [(27,V.int (Xn 16)),(107,V.ref 2),(106,V.ref 3),(105,V.ref 4),(104,bc r.isSome (V.int ⟨0,[(100,1)]⟩) V.none),(103,V.int ⟨0,[(101,1)]⟩)] p.1).isNone)=true:=by
  induction r<;>rfl
 have:=(Qf key) _ (Na hm)
 exact Option.isNone_iff_eq_none.mp this
theorem Xca:Xr.get 842=some Jx:=rfl
theorem Kv(O:C.Ok)(hc:XB C n k.call)(hk:k.cls=Xr.get)(hw:k.wheelC=842)(g:YK A n){Ro Rq σ l s m j a es r gv i nm v σ'}{y:ML}(hs:Ys args=true)
  (hy:SL C n L k y (spliced (backTo pos (starEach args env))))(h0:args=[]->y=Xe)(T:At C L Ro Rq σ l s.heap m)(ha:Ro[j]?=some a)(hn:Zc[i]?=some nm)(q:σ.get j=some (.wheel es r gv))
  (e:Uk k y i j l σ (k.cls k.wheelC)= .ok v σ'){E}(h:PE C L Ro Rq s.heap σ' l v Q s):
  wpAny (model C.prog C.w) A (getMethod (.ref a) nm pl) (λfx s₂=>wpAny (model C.prog C.w) A (callWith pos fx.1 fx.2 (backTo pos (starEach args env)) []) Q E s₂) E s:=by
 rw[hk,hw,Xca] at e
 refine WA (show oc (Xh Jx.meths i) .no (λa=>(y k l σ).to .no λvs s=>k.call (.fn a) (.ref j::vs) s)= .ok v σ' from e) λf e3 e4=>?_
 refine Ir e4 λus σ1 e5 e6=>?_
 refine x14 ((O.cls 842 Jx rfl).meth i f e3) λx f1 f2 f3 f4=>?_
 rw[hn] at f1
 obtain rfl:=QV f1
 refine YO (T.rp.obj j _ q) λa' g1 g2 g3=>?_
 rw[ha] at g1;obtain rfl:=QV g1
 refine x34 (BJ g3 e3 hn) λdx es' n' i1 i2 i3 I=>?_
 exact method_inst T.fr O.inK I (Z9 (O.cls 842 Jx rfl).get) f2 f3 i3 (DG O hc g hs hy h0 T (.fn f) (.cons (.ref j a ha) .nil) f4 e5 e6 h)
set_option tactic.hygienic true in
theorem Xpz(O:C.Ok)(hc:XB C n k.call)(hk:k.cls=Xr.get)(hw:k.wheelC=842){y:ML}{o:Expr}(hx:SE C n L k x (eval o env))(hn:Zc[i]?=some nm)(hb:UG o=true)
  (hs:Ys args=true)(hl:args.length < 30)(hp:(apos.endLine == pos.line)=true)(hy:SL C n L k y (spliced (backTo pos (starEach args env))))(h0:args=[]->y=Xe):
  SE C n L k (Xi x i y) (eval (.Call (.Attribute o nm apos) args [] pos) env):=by
 intro A g Ro Rq σ l s m v σ' T e' Q E h
 refine Js e' λu σ1 e1 e2=>?_
 rw[Xec hb hs hl hp]
 refine Qg (wpAny_mono (hx A g _ _ _ _ _ _ _ _ T e1 (λov s₁=>wpAny (model C.prog C.w) A (getMethod ov nm (do return (←importBound o env).getD true)) (λfx s₂=>wpAny (model C.prog C.w) A (callWith pos fx.1 fx.2 (backTo pos (starEach args env)) []) Q E s₂) E s₁) E λh1 t1 Ru Rv m1 v1 G1 T1 R1=>?_) (λov s₁ H=>Qg (wpAny_standAt (Qg (QB H)))) λ_ _ z=>z)
 induction R1<;>try (exact Y3 e2;done)
 rename_i j a ha
 replace e2:De k y i j l σ1 (σ1.get j)= .ok v σ':=e2
 induction q:σ1.get j with
 |none=>rw[q] at e2;exact Y3 e2
 |some ob=>
  rw[q] at e2
  induction ob with
  |inst c d=>exact Bc (s:={s with heap:=h1,toks:=t1}) O hc hk g hs hy h0 T1 ha hn q e2 (h.step G1)
  |list xs=>
   refine Ir (show (y k l σ1).to .no (λvs s=>WW j i vs s (s.get j))= .ok v σ' from e2) λus σ2 e3 e4=>?_
   exact Bd (s:={s with heap:=h1,toks:=t1}) g hs hy h0 T1 ha hn q e3 e4 (h.step G1)
  |idict xs=>
   refine Ir (show (y k l σ1).to .no (λvs s=>Iz j i vs s (s.get j))= .ok v σ' from e2) λus σ2 e3 e4=>?_
   exact Bb (s:={s with heap:=h1,toks:=t1}) g hs hy h0 T1 ha hn q e3 e4 (h.step G1)
  |wheel es r gv=>exact Kv (s:={s with heap:=h1,toks:=t1}) O hc hk hw g hs hy h0 T1 ha hn q e2 (h.step G1)
  |flds _ _=>exact Y3 e2
  |tup _=>exact Y3 e2
  |barr=>exact Y3 e2
  |src _=>exact Y3 e2
end
inductive ZO(C:Cx)(env:Env):List Expr->List Nat->Prop
 |nil:ZO C env [] []
 |cons {x p es n ns:_}:Zc[n]?=some x->C.cellv.lookup x=none->env.kindOf x=some .local->ZO C env es ns->ZO C env (.Name x p::es) (n::ns)
theorem ZO.length(h:ZO C env es ns):(assignEach es env).length=ns.length/\(assignEach es env).findIdx? (·.1)=none:=by
 induction h with
 |nil=>exact ⟨rfl,rfl⟩
 | @cons x p es n ns _ _ _ _ ih=>
  have:assignEach (.Name x p::es) env=(false,assign (.Name x p) env)::assignEach es env:=rfl
  rw[this,Qp,Qp,ih.1,List.findIdx?_cons]
  exact ⟨rfl,by rw[ih.2];rfl⟩
theorem Jr:∀{l l':YG}{ns:List Nat}{vs:List V},Zp l ns vs=some l'->ns.length=vs.length
 |_,_,[],[],_=>rfl
 |_,_,n::ns,v::vs,h=>congrArg (· + 1) (Jr (l:=XM _ n v) h)
 |_,_,[],_::_,h=>by exact Xx h
 |_,_,_::_,[],h=>by exact Xx h
theorem Xeg(hE:ZC env L):∀{es:List Expr}{ns:List Nat}{us:List V}{vs:List Rm}{l l':YG}{Ro Rq σ s m},ZO C env es ns->YH C.ρ Ro us vs->Zp l ns us=some l'->At C L Ro Rq σ l s.heap m->
  ∀{Q:Unit->Rk->Prop},(∀h' t m',XJ (·=L) Ro Rq s.heap Ro Rq h'->At C L Ro Rq σ l' h' m'->Q () {s with heap:=h',toks:=t})->wpAny (model C.prog C.w) A (assignInOrder ((assignEach es env).map (·.2)) vs) Q E s:=by
 intro es ns us vs l l' Ro Rq σ s m N
 induction N generalizing us vs l s m with
 |nil=>
  intro R e T Q h
  induction R with
  |nil=>obtain rfl:=QV e;exact Qh (h s.heap s.toks m .refl T)
  |cons _ _=>exact Xx e
 | @cons x p es n ns hx Ry hl N ih=>
  intro R e T Q h
  induction R with
  |nil=>exact Xx e
  | @cons u v us vs hv R=>
   show wpAny _ A (do holding vs (assign (.Name x p) env v);assignInOrder ((assignEach es env).map (·.2)) vs) Q E s
   refine Qg (QB (assign_Name (J5 hE T hx Ry hl hv λh1 t1 m1 G1 T1=>?_)))
   exact ih (s:={s with heap:=h1,toks:=t1}) R (show Zp (XM l n u) ns us=some l' from e) T1 λh2 t2 m2 G2 T2=>h h2 t2 m2 (G1.trans G2) T2
set_option tactic.hygienic true in
theorem Os{Ro Rq σ v x us}(R:Rp C Ro Rq σ h)(hv:VR C.ρ Ro v x)(e:Du σ v=some us):∃a vs,x= .ref a/\IsTup h a vs.toArray/\YH C.ρ Ro us vs:=by
 induction hv<;>try (exact Xx e;done)
 rename_i i a ha
 replace e:It (σ.get i)=some us:=e
 induction q:σ.get i with
 |none=>rw[q] at e;exact Xx e
 |some o=>
  rw[q] at e
  refine Zx λ_ kk=>?_
  induction o<;>first |exact Xx e |(refine kk ?_;clear kk)
  obtain rfl:=QV e
  refine YO (R.obj i _ q) λa' f1 f2 zz1=>?_;refine Y5 zz1 λvs n1 g1 g2=>?_
  rw[ha] at f1;obtain rfl:=QV f1
  exact ⟨a,vs,rfl,⟨_,g1,rfl,n1,rfl⟩,g2⟩
theorem GN(hE:ZC env L)(g:YK A n){Ro Rq σ s m v x kk pos}(N:ZO C env es ns)(T:At C L Ro Rq σ l s.heap m)
  (hv:VR C.ρ Ro v x)(e1:Du σ v=some us)(e2:Zp l ns us=some l'){Q:Unit->Rk->Prop}(h:∀h' t m',XJ (·=L) Ro Rq s.heap Ro Rq h'->At C L Ro Rq σ l' h' m'->Q () {s with heap:=h',toks:=t}):
  wpAny (model C.prog C.w) A (assign (.Tuple es kk pos) env x) Q E s:=by
 refine UB (Os T.rp hv e1) λa vs zz2 ht R=>?_;subst zz2
 have hlen:=Jr e2
 have hl2:=R.length
 refine unpackN_ T.fr (XO _ _ _) ht g.1 (by rw[N.length.1,hlen,hl2];simp) N.length.2 λh' F' N'=>?_
 obtain ⟨G1,T1⟩:=T.still F' N' T.lr
 exact Xeg (s:={s with heap:=h'}) hE N R e2 T1 λh2 t2 m2 G2 T2=>h h2 t2 m2 (G1.trans G2) T2
theorem XlA(hE:ZC env L)(hy:SE C n L k y (eval e env))(N:ZO C env es ns)
  (hs:swapsWithSole [.Tuple es kk tpos] e pos.line env=pure false)(hw:swappedStores [.Tuple es kk tpos] e env=pure none):
  SS C n L k (J3 ns y) (exec (.Assign [.Tuple es kk tpos] e pos) env):=by
 intro A g Ro Rq σ l s m out T e' hno Q E h
 refine Y5 (Xu.of_toS e' hno) λu σ1 e1 e2=>?_
 refine YB (ZF e2 (λe=>hno e.symm)) λvs e3 e4=>?_
 refine YB (ZF e4 (λe=>hno e.symm)) λl' e5 e6=>?_
 subst e6
 refine PyProof.Rows.Assign_Tuple (hy A g _ _ _ _ _ _ _ _ T e1 _ _ λh1 t1 Ru Rv m1 v1 G1 T1 R1=>?_) hs hw
 exact GN (s:={s with heap:=h1,toks:=t1}) hE g N T1 R1 e3 e5 λh2 t2 m2 G2 T2=>h h2 t2 Ru Rv m2 (G1.trans G2) T2
theorem LR.congr(x:LR C Ro l m)(h:∀i,Xh l' i=Xh l i):LR C Ro l' m:=λi v e=>x i v ((h i).symm.trans e)
theorem Xhp(hE:ZC env L){n1 n2:Nat}(hy:SE C n L k y (eval e env))
  (hx1:Zc[n1]?=some x1)(hx2:Zc[n2]?=some x2)(hcv1:C.cellv.lookup x1=none)(hcv2:C.cellv.lookup x2=none)(hl1:env.kindOf x1=some .local)(hl2:env.kindOf x2=some .local)(hne:n1≠n2)
  (hs:swapsWithSole [.Tuple es kk tpos] e pos.line env=pure false)(hw:swappedStores [.Tuple es kk tpos] e env=pure (some [x1,x2])):
  SS C n L k (J3 [n1,n2] y) (exec (.Assign [.Tuple es kk tpos] e pos) env):=by
 intro A g Ro Rq σ l s m out T e' hno Q E h
 refine Y5 (Xu.of_toS e' hno) λu σ1 e1 e2=>?_
 refine YB (ZF e2 (λe=>hno e.symm)) λvs e3 e4=>?_
 refine YB (ZF e4 (λe=>hno e.symm)) λl' e5 e6=>?_
 subst e6
 refine PyProof.Rows.Assign_Tuple_swapped (names:=[x1,x2]) (hy A g _ _ _ _ _ _ _ _ T e1 _ _ λh1 t1 Ru Rv m1 v1 G1 T1 R1=>?_) hs hw
 refine UB (Os T1.rp R1 e3) λa ws zz3 ht R=>?_;subst zz3
 have hlen:=Jr e5
 have hl3:=R.length
 obtain ⟨u1,u2,rfl⟩:∃u1 u2,vs=[u1,u2]:=by
  induction vs with
  |nil=>injection hlen
  |cons u1 vs=>
   induction vs with
   |nil=>cases hlen
   |cons u2 vs=>
    induction vs with
    |nil=>exact ⟨u1,u2,rfl⟩
    |cons _ _=>cases hlen
 ·cases R with
  | @cons _ w1 _ _ hw1 R=>
   cases R with
   | @cons _ w2 _ _ hw2 R=>
    cases R
    replace e5:some (XM (XM l n1 u1) n2 u2)=some l':=e5
    refine unpackItemsN_ (s:={s with heap:=h1,toks:=t1}) T1.fr (XO _ _ _) ht g.1 rfl λh' F' N'=>?_
    obtain ⟨G2,T2⟩:=T1.still F' N' T1.lr
    show wpAny _ A (do holding [w1] (bindName env x2 w2);(do holding [] (bindName env x1 w1);pure ())) (λ_=>Q .next) E _
    refine Qg (QB (bindName_ (J5 (s:={s with heap:=h',toks:=t1}) hE T2 hx2 hcv2 hl2 hw2 λh3 t3 m3 G3 T3=>?_)))
    refine Qg (QB (bindName_ (J5 (s:={s with heap:=h3,toks:=t3}) hE T3 hx1 hcv1 hl1 hw1 λh4 t4 m4 G4 T4=>?_)))
    refine Qh (h h4 t4 Ru Rv m4 (G1.trans (G2.trans (G3.trans G4))) ⟨T4.rp,T4.fr,T4.ownL,T4.lr.congr λi=>?_,T4.cel⟩)
    obtain rfl:=QV e5
    rw[Zh,Zh,Zh,Zh]
    by_cases h2:n2=i
    ·rw[if_pos h2,if_neg (by rintro rfl;exact hne h2.symm),if_pos h2]
    ·rw[if_neg h2,if_neg h2]
inductive Jv(C:Cx)(n:Nat)(L:Rn)(k:K)(env:Env):List Expr->List (M×Nat)->Prop
 |nil:Jv C n L k env [] []
 |cons {o a p es x i ts:_}:SE C n L k x (eval o env)->Zc[i]?=some a->Jv C n L k env es ts->Jv C n L k env (.Attribute o a p::es) ((x,i)::ts)
theorem Jv.length{ts:List (M×Nat)}(h:Jv C n L k env es ts):(assignEach es env).length=ts.length/\(assignEach es env).findIdx? (·.1)=none:=by
 induction h with
 |nil=>exact ⟨rfl,rfl⟩
 | @cons o a p es x i ts _ _ _ ih=>
  have:assignEach (.Attribute o a p::es) env=(false,assign (.Attribute o a p) env)::assignEach es env:=rfl
  rw[this,Qp,Qp,ih.1,List.findIdx?_cons]
  exact ⟨rfl,by rw[ih.2];rfl⟩
set_option tactic.hygienic true in
theorem KW{w:V}(e:setA k l i w u σ=out):out= .no∨∃σ',out= .next l σ':=by
 subst e
 induction u<;>try exact .inl rfl
 rename_i j
 show XbX k l i w σ (σ.get j)=_∨∃σ',XbX k l i w σ (σ.get j)=_
 induction σ.get j with
 |none=>exact .inl rfl
 |some o=>
  induction o<;>try exact .inl rfl
  rename_i c d
  show XbW k l i w σ c d (σ.get d)=_∨∃σ',XbW k l i w σ c d (σ.get d)=_
  induction σ.get d with
  |none=>exact .inl rfl
  |some o=>
   induction o<;>try exact .inl rfl
   rename_i c' fs
   show bc (Nat.beq c c') _ _=_∨∃σ',bc (Nat.beq c c') _ _=_
   induction Nat.beq c c' with
   |false=>exact .inl rfl
   |true=>
    induction hcl:k.cls c with
    |none=>exact .inl rfl
    |some cl=>
     show bc (WX cl.mask i) _ _=_∨∃σ',bc (WX cl.mask i) _ _=_
     induction WX cl.mask i with
     |false=>exact .inl rfl
     |true=>exact .inr ⟨_,rfl⟩
theorem Xcw(O:C.Ok)(hk:k.cls=Xr.get)(g:YK A n){ts:List (M×Nat)}(N:Jv C n L k env es ts):∀{us:List V}{vs:List Rm}{l:YG}{Ro Rq σ s m out},YH C.ρ Ro us vs->ZQ ts us k l σ=out->out≠ .no->At C L Ro Rq σ l s.heap m->
  ∀{Q:Flow->Rk->Prop},PS C L Ro Rq s.heap out Q s->wpAny (model C.prog C.w) A (assignInOrder ((assignEach es env).map (·.2)) vs) (λ_=>Q .next) E s:=by
 induction N with
 |nil=>
  intro us vs l Ro Rq σ s m out R e hno T Q h
  induction R with
  |nil=>subst e;exact Qh (h s.heap s.toks Ro Rq m .refl T)
  |cons _ _=>exact absurd e.symm hno
 | @cons o a p es x i ts hx hn N ih=>
  intro us vs l Ro Rq σ s m out R e hno T Q h
  induction R with
  |nil=>exact absurd e.symm hno
  | @cons u v us vs hv R=>
   show wpAny _ A (do holding vs (assign (.Attribute o a p) env v);assignInOrder ((assignEach es env).map (·.2)) vs) (λ_=>Q .next) E s
   replace e:((x k l σ).to .no (setA k l i u)).to (ZQ ts us k)=out:=e
   induction q1:x k l σ with
   |no=>rw[q1] at e;exact absurd e.symm hno
   |ok ov σ1=>
    rw[q1] at e
    replace e:(setA k l i u ov σ1).to (ZQ ts us k)=out:=e
    rcases KW (rfl:setA k l i u ov σ1=_) with q2 |⟨σ2,q2⟩
    ·rw[q2] at e;exact absurd e.symm hno
    ·rw[q2] at e
     replace e:ZQ ts us k l σ2=out:=e
     rw[assign_Attribute]
     refine Qg (QB (Qg (QB (hx A g _ _ _ _ _ _ _ _ T q1 _ _ λh1 t1 Ru Rv m1 v1 G1 T1 R1=>?_))))
     refine Qg (wpAny_standAt (Qg (QB ?_)))
     refine IJ (s:={s with heap:=h1,toks:=t1}) (Q:=λ_ s'=>wpAny _ A (release [v,v1] []) (λ_ s₂=>wpAny _ A (assignInOrder ((assignEach es env).map (·.2)) vs) (λ_=>Q .next) E s₂) E s') O hk T1 R1 (hv.mono G1.pre) hn q2 nofun λh2 t2 Rz RA m2 G2 T2=>wpAny_release ?_
     exact ih (s:={s with heap:=h2,toks:=t2}) ((R.mono G1.pre).mono G2.pre) e hno T2 (h.step (G1.trans G2))
theorem Xho(O:C.Ok)(hk:k.cls=Xr.get){ts:List (M×Nat)}(hy:SE C n L k y (eval e env))(N:Jv C n L k env es ts)
  (hs:swapsWithSole [.Tuple es kk tpos] e pos.line env=pure false)(hw:swappedStores [.Tuple es kk tpos] e env=pure none):SS C n L k (Gp ts y) (exec (.Assign [.Tuple es kk tpos] e pos) env):=by
 intro A g Ro Rq σ l s m out T e' hno Q E h
 refine Y5 (Xu.of_toS e' hno) λu σ1 e1 e2=>?_
 refine YB (ZF e2 (λe=>hno e.symm)) λus e3 e4=>?_
 refine PyProof.Rows.Assign_Tuple (hy A g _ _ _ _ _ _ _ _ T e1 _ _ λh1 t1 Ru Rv m1 v1 G1 T1 R1=>?_) hs hw
 refine UB (Os T1.rp R1 e3) λa vs zz4 ht R=>?_;subst zz4
 have hl2:=R.length
 have hlen:ts.length=us.length:=by
  have:∀{ts:List (M×Nat)}{us:List V}{l σ},ZQ ts us k l σ=out->ts.length=us.length:=by
   intro ts
   induction ts with
   |nil=>intro us l σ e;induction us with |nil=>rfl |cons _ _=>exact absurd e.symm hno
   |cons t ts ih=>
    intro us l σ e
    induction us with
    |nil=>exact absurd e.symm hno
    |cons u us=>
     obtain ⟨x,i⟩:=t
     replace e:((x k l σ).to .no (setA k l i u)).to (ZQ ts us k)=out:=e
     induction q1:x k l σ with
     |no=>rw[q1] at e;exact absurd e.symm hno
     |ok ov σ1=>
      rw[q1] at e
      replace e:(setA k l i u ov σ1).to (ZQ ts us k)=out:=e
      rcases KW (rfl:setA k l i u ov σ1=_) with q2 |⟨σ2,q2⟩
      ·rw[q2] at e;exact absurd e.symm hno
      ·rw[q2] at e
       exact congrArg (· + 1) (ih (show ZQ ts us k l σ2=out from e))
  exact this e4
 refine unpackN_ (s:={s with heap:=h1,toks:=t1}) T1.fr (XO _ _ _) ht g.1 (by rw[N.length.1,hlen,hl2];simp) N.length.2 λh' F' N'=>?_
 obtain ⟨G2,T2⟩:=T1.still F' N' T1.lr
 exact Xcw (s:={s with heap:=h',toks:=t1}) O hk g N R e4 hno T2 (h.step (G1.trans G2))
def IO(C:Cx)(n:Nat)(L:Rn)(env:Env)(target:Expr)(b:ZH):Prop:=∀A,YK A n->∀Ro Rq σ l s m v x l',At C L Ro Rq σ l s.heap m->VR C.ρ Ro v x->b l v σ=some l'->∀(Q:Unit->Rk->Prop) E,
 (∀h' t m',XJ (·=L) Ro Rq s.heap Ro Rq h'->At C L Ro Rq σ l' h' m'->Q () {s with heap:=h',toks:=t})->wpAny (model C.prog C.w) A (assign target env x) Q E s
def JA:Expr->Bool:=isX 23
def Zg(e:Expr):Bool:=isX 23 e||isX 25 e
theorem bs1(hE:ZC env L){x:Str}(hx:Zc[i]?=some x)(Ry:C.cellv.lookup x=none)(hl:env.kindOf x=some .local):IO C n L env (.Name x p) (Yh i):=by
 intro A g Ro Rq σ l s m v y l' T R e Q E h
 obtain rfl:=QV e
 exact PyProof.Rows.assign_Name (J5 hE T hx Ry hl R λh2 t2 m2 G2 T2=>h h2 t2 m2 G2 T2)
theorem bsT(hE:ZC env L)(N:ZO C env es ns):IO C n L env (.Tuple es kk p) (Zj ns):=by
 intro A g Ro Rq σ l s m v y l' T R e Q E h
 refine Z8 (show oc (Du σ v) none (λvs=>Zp l ns vs)=some l' from e) λus e1 e2=>?_
 exact GN hE g N T R e1 e2 h
theorem At.noOwn(T:At C L Ro Rq σ l h m)(hI:h.get? I=none)(hk:∀b o,h.get? b=some o->h'.get? b=some o):
  XJ (λ_=>False) Ro Rq h Ro (λb=>if b=I then none else Rq b) h'/\At C L Ro (λb=>if b=I then none else Rq b) σ l h' m/\(λb=>if b=I then none else Rq b) I=(none:Option Nat):=by
 have F':=T.fr.grownK hk
 have hne:∀{b o},h.get? b=some o->b≠I:=by
  rintro b o e rfl
  rw[hI] at e;exact Xx e
 have G:XJ (λ_=>False) Ro Rq h Ro (λb=>if b=I then none else Rq b) h':=⟨Qy,λb o e=>if_neg (hne e),λb o e _ _=>hk b o e,λb o e=>⟨o,hk b o e⟩⟩
 refine ⟨G,⟨⟨T.rp.len,λb o e=>?_,F'.keep,JS F',λj o e=>?_⟩,F',?_,T.lr,T.cel.gone G.calm⟩,if_pos rfl⟩
 ·show (if b=I then none else Rq b)=none
  split
  ·rfl
  ·exact T.rp.old b o e
 ·refine YO (T.rp.obj j o e) λa h1 h2 h3=>?_
  obtain ⟨y,hy⟩:=h3.live
  refine ⟨a,h1,(if_neg (hne hy)).trans h2,h3.mono h2 Qy (λb o hb e=>hk b o e) λb hb=>if_neg ?_⟩
  rintro rfl
  rw[hI] at hb;exact ff hb
 ·show (if L=I then none else Rq L)=none
  split
  ·rfl
  ·exact T.ownL
theorem At.beside{X:Rn->Prop}(T:At C L Ro Rq σ l h m)(G:XJ X ads0 own0 h0 Ro Rq h)(hI:Rq I=none)(hI0:h0.get? I=none)(hIH:C.H0.get? I=none)(hIL:I≠L)(hIc:∀p∈C.cells,p.1≠I)
  (hk:Heap.ExtBut I h h'):XJ X ads0 own0 h0 Ro Rq h'/\At C L Ro Rq σ l h' m:=by
 have hk':∀b o,b≠I->h.get? b=some o->h'.get? b=some o:=λb o hb e=>hk b o hb e
 have F':=XkG T.fr (λo e=>hk' L o hIL.symm e) (λb o e=>hk' b o (by rintro rfl;rw[hIH] at e;cases e) (T.fr.keep b o e))
 refine ⟨⟨G.pre,G.same,λb o e hn hb=>hk' b o (by rintro rfl;rw[hI0] at e;cases e) (G.keep b o e hn hb),λb o e=>?_⟩,⟨⟨T.rp.len,T.rp.old,F'.keep,JS F',λj o e=>?_⟩,F',T.ownL,T.lr,λp hp=>?_⟩⟩
 ·obtain ⟨o',e'⟩:=G.live b o e
  have hb:b≠I:=by rintro rfl;rw[hI0] at e;cases e
  exact ⟨o',hk' b o' hb e'⟩
 ·refine YO (T.rp.obj j o e) λa h1 h2 h3=>?_
  exact ⟨a,h1,h2,h3.mono h2 Qy (λb o hb e=>hk' b o (by rintro rfl;rw[hI] at hb;cases hb) e) λ_ _=>rfl⟩
 ·refine YF (T.cel p hp) λc1 c2 c3=>?_
  exact ⟨c1,hk' _ _ (hIc p hp) c2,c3⟩
theorem Xag{x:Rm}{Q:Unit->Rk->Prop}(ht:Zg target=true)(hit:s.heap.IsListIter I a j)(h:Q () s):wpAny (model C.prog C.w) A (letOwnedTupleGo target (.ref I) x) Q E s:=by
 cases target<;>try (exact ff ht;done)
 ·exact Qh h
 ·induction x<;>first |exact wpAny_letOwnedTupleGo_listiter hit h |exact Qh h
theorem D0{x:Rm}{Q:Unit->Rk->Prop}(ht:JA target=true)(h:Q () s):wpAny (model C.prog C.w) A (letOwnedTupleGo target (.ref I) x) Q E s:=by
 cases target<;>first |exact Qh h |cases ht
theorem Kg{get body b i j l σ}:X9 get body b k i 0 j l σ= .no:=rfl
theorem Ke{get body b i f j l σ}:X9 get body b k i (f + 1) j l σ=oc (get (σ.get i)) .no λits=> @Option.rec V (λ_=>Zk) (.next l σ) (λv=>oc (b l v σ) .no λl=>(body k l σ).to (X9 get body b k i f (j + 1))) (Zn its j):=rfl
theorem O4(g:YK A n){x:MS}{b:ZH}{get:Option O->Option (List V)}(IsIt:Heap->Nat->Prop)(hb:IO C n L env target b)(hx:SS C n L k x (execs body env))
  (hitk:∀h h' j,(∀o,h.get? I=some o->h'.get? I=some o)->IsIt h j->IsIt h' j)(hlive:∀h j,IsIt h j->∃o,h.get? I=some o)
  (hgo:∀A s j v (Q:Unit->Rk->Prop) E,IsIt s.heap j->Q () s->wpAny (model C.prog C.w) A (letOwnedTupleGo target (.ref I) v) Q E s)
  (hnext:∀s Ro Rq σ l m its j,At C L Ro Rq σ l s.heap m->Ro[i]?=some a->get (σ.get i)=some its->IsIt s.heap j->
   (∀v (Q:Option Rm->Rk->Prop)(E:Rm->Rk->Prop),its[j]?=some v->(∀y h',VR C.ρ Ro v y->IsIt h' (j + 1)->Heap.ExtBut I s.heap h'->Q (some y) {s with heap:=h'})->wpAny (model C.prog C.w) A (pyNext (.ref I)) Q E s)/\
   (∀(Q:Option Rm->Rk->Prop)(E:Rm->Rk->Prop),its[j]?=none->(∀h',Heap.ExtBut I s.heap h'->Q none {s with heap:=h'})->wpAny (model C.prog C.w) A (pyNext (.ref I)) Q E s))
  {ads0 own0}(hno:out≠ .no)(hI0:s0.heap.get? I=none)(hIH:C.H0.get? I=none)(hIL:I≠L)(hIc:∀p∈C.cells,p.1≠I){Q:Flow->Rk->Prop}(hq:PS C L ads0 own0 s0.heap out Q s0)(hR:∀fl s',Q fl s'->R (.ok fl) s')
  (f:Nat){Ro Rq σ l m h t j}(T:At C L Ro Rq σ l h m)(G:XJ (·=L) ads0 own0 s0.heap Ro Rq h)(hI:Rq I=none)(hit:IsIt h j)(ha:Ro[i]?=some a)(e:X9 get x b k i f j l σ=out):
  codeAny (model C.prog C.w) A (.forLoop target (.ref I) body [] env) R {s0 with heap:=h,toks:=t}:=by
 refine KI (λ(f:Nat) (s:Rk)=>∃h t,s={s0 with heap:=h,toks:=t}/\∃Ro Rq σ l m j,At C L Ro Rq σ l h m/\XJ (·=L) ads0 own0 s0.heap Ro Rq h/\Rq I=none/\IsIt h j/\Ro[i]?=some a/\X9 get x b k i f j l σ=out) λV up dn=>?_
 refine codeAny_forLoop_any V (λf s hi=>?_) f (up _ _ ⟨_,_,rfl,Ro,Rq,σ,l,m,j,T,G,hI,hit,ha,e⟩)
 refine Y5 (dn _ _ hi) λh t zz2 hj=>?_;subst zz2;refine x66 hj λRo Rq σ l m j T G hI hit ha e=>?_
 induction f with
 |zero=>exact absurd (Kg.symm.trans e).symm hno
 |succ f=>
  rw[Ke] at e
  refine YB (ZF e (λe=>hno e.symm)) λits e1 e2=>?_
  obtain ⟨n1,n2⟩:=hnext {s0 with heap:=h,toks:=t} Ro Rq σ l m its j T ha e1 hit
  rw[Zo] at e2
  induction q:its[j]? with
  |none=>
   rw[q] at e2
   replace hq:=hq.eq e2
   refine n2 _ _ q λh' hk=>?_
   obtain ⟨G',T'⟩:=T.beside G hI hI0 hIH hIL hIc hk
   exact wpAny_execs_nil (hR _ _ (hq h' t Ro Rq m G' T'))
  |some v=>
   rw[q] at e2
   refine YB (ZF (show oc (b l v σ) .no (λl=>(x k l σ).to (X9 get x b k i f (j + 1)))=out from e2) (λe=>hno e.symm)) λl1 e3 e4=>?_
   refine n1 v _ _ q λy h' hv hit' hk=>?_
   obtain ⟨G',T'⟩:=T.beside G hI hI0 hIH hIL hIc hk
   refine hgo A _ (j + 1) y _ _ hit' ?_
   refine hb A g Ro Rq σ l {s0 with heap:=h',toks:=t} m v y l1 T' hv e3 _ _ λh2 t2 m2 G2 T2=>?_
   induction q2:x k l1 σ with
   |no=>rw[q2] at e4;exact absurd e4.symm hno
   |ret u σ1=>
    rw[q2] at e4
    replace hq:=hq.eq e4
    exact hx A g _ _ _ _ {s0 with heap:=h2,toks:=t2} _ _ T2 q2 nofun _ _ λh3 t3 RB RC m3 l3 val G3 T3 R3=>hR _ _ (hq h3 t3 RB RC m3 l3 val (G'.trans (G2.trans G3)) T3 R3)
   |next l2 σ1=>
    rw[q2] at e4
    refine hx A g _ _ _ _ {s0 with heap:=h2,toks:=t2} _ _ T2 q2 nofun _ _ λh3 t3 RB RC m3 G3 T3=>?_
    obtain ⟨oI,hoI⟩:=hlive _ _ hit'
    have hI2:h2.get? I=some oI:=G2.keep I oI hoI hI hIL
    have hI3:h3.get? I=some oI:=G3.keep I oI hI2 hI hIL
    exact ⟨f,QO f,up _ _ ⟨h3,t3,rfl,RB,RC,σ1,l2,m3,j + 1,T3,G'.trans (G2.trans G3),(G3.same I oI hI2).trans hI,hitk _ _ _ (λo e=>by rw[hoI] at e;obtain rfl:=QV e;exact hI3) hit',Yb G3.pre ha,e4⟩⟩
def KB(e:Expr):Bool:= !isX 7 e
theorem JW(h:KB e=true)(x:Rm):foldedSetIterable e env x=pure x:=by
 cases e<;>first |rfl |cases h
section
theorem Jj(T:At C L Ro Rq σ l h m):h.get? h.objs.size=none/\C.H0.get? h.objs.size=none/\h.objs.size≠L/\∀p∈C.cells,p.1≠h.objs.size:=by
 refine ⟨Ye h,?_,?_,λp hp=>Qz (Qu (T.cel p hp).2.1)⟩
 ·induction q:C.H0.get? h.objs.size with
  |none=>rfl
  |some o=>exact absurd (Qu (T.fr.keep _ _ q)) (Nat.lt_irrefl _)
 ·obtain ⟨o,e⟩:=N4 T.fr
  exact Nat.ne_of_gt (Qu e)
theorem Dc(g:A.handled=none){Ro Rq σ l m its j}(T:At C L Ro Rq σ l s.heap m)(ha:Ro[i]?=some a)(e:Y7 (σ.get i)=some its)(hit:s.heap.IsListIter I a j):
   (∀v (Q:Option Rm->Rk->Prop)(E:Rm->Rk->Prop),its[j]?=some v->(∀y h',VR C.ρ Ro v y->h'.IsListIter I a (j + 1)->Heap.ExtBut I s.heap h'->Q (some y) {s with heap:=h'})->wpAny (model C.prog C.w) A (pyNext (.ref I)) Q E s)/\
   (∀(Q:Option Rm->Rk->Prop)(E:Rm->Rk->Prop),its[j]?=none->(∀h',Heap.ExtBut I s.heap h'->Q none {s with heap:=h'})->wpAny (model C.prog C.w) A (pyNext (.ref I)) Q E s):=by
 induction q:σ.get i with
 |none=>rw[q] at e;exact Xx e
 |some o=>
  rw[q] at e
  induction o<;>try (exact Xx e;done)
  obtain rfl:=QV e
  refine YO (T.rp.obj i _ q) λa' f1 f2 zz1=>?_;refine Y5 zz1 λvs n1 g1 g2=>?_
  rw[ha] at f1;obtain rfl:=QV f1
  have hl:s.heap.IsList a vs.toArray:=⟨_,g1,rfl,n1,rfl⟩
  refine ⟨λv Q E hv h=>?_,λQ E hv h=>?_⟩
  ·refine YB (g2.get hv) λy e1 e2=>?_
   exact wpAny_pyNext_list_item hit hl (x:=y) (by simpa using e1) λh' hit' hs=>h y h' e2 hit' hs.extBut
  ·refine wpAny_pyNext_list_end g hit hl ?_ λh' hs=>h h' hs
   have:=g2.length
   have h1:=List.getElem?_eq_none_iff.mp hv
   simp;lia
theorem Md(g:A.handled=none){Ro Rq σ l m its j}(T:At C L Ro Rq σ l s.heap m)(ha:Ro[i]?=some a)(e:It (σ.get i)=some its)(hit:s.heap.IsTupleIter I a j):
   (∀v (Q:Option Rm->Rk->Prop)(E:Rm->Rk->Prop),its[j]?=some v->(∀y h',VR C.ρ Ro v y->h'.IsTupleIter I a (j + 1)->Heap.ExtBut I s.heap h'->Q (some y) {s with heap:=h'})->wpAny (model C.prog C.w) A (pyNext (.ref I)) Q E s)/\
   (∀(Q:Option Rm->Rk->Prop)(E:Rm->Rk->Prop),its[j]?=none->(∀h',Heap.ExtBut I s.heap h'->Q none {s with heap:=h'})->wpAny (model C.prog C.w) A (pyNext (.ref I)) Q E s):=by
 induction q:σ.get i with
 |none=>rw[q] at e;exact Xx e
 |some o=>
  rw[q] at e
  induction o<;>try (exact Xx e;done)
  obtain rfl:=QV e
  refine YO (T.rp.obj i _ q) λa' f1 f2 zz2=>?_;refine Y5 zz2 λvs n1 g1 g2=>?_
  rw[ha] at f1;obtain rfl:=QV f1
  have hl:s.heap.IsTuple a vs.toArray:=⟨_,g1,rfl,n1,rfl⟩
  refine ⟨λv Q E hv h=>?_,λQ E hv h=>?_⟩
  ·refine YB (g2.get hv) λy e1 e2=>?_
   exact wpAny_pyNext_tuple_item hit hl (x:=y) (by simpa using e1) λh' hit' hs=>h y h' e2 hit' hs.extBut
  ·refine wpAny_pyNext_tuple_end g hit hl ?_ λh' hs=>h h' hs
   have:=g2.length
   have h1:=List.getElem?_eq_none_iff.mp hv
   simp;lia
set_option tactic.hygienic true
theorem XdK{x:Rm}{Q:Unit->Rk->Prop}(ht:Zg target=true)(hit:s.heap.IsTupleIter I a j)(h:Q () s):wpAny (model C.prog C.w) A (letOwnedTupleGo target (.ref I) x) Q E s:=by
 cases target<;>try (exact ff ht;done)
 ·exact Qh h
 ·rename_i elts x1 pos
  induction x<;>try exact Qh h
  rename_i T
  refine YO hit λo ho hc hd=>?_
  unfold letOwnedTupleGo
  refine Qg (wpAny_load ho ?_)
  rw[hc,hd]
  show wpAny _ A (if (["enumerate","zip","dict_itemiterator","dict_reverseitemiterator","odict_iterator","itertools.zip_longest","itertools.pairwise"].contains "tuple_iterator"&&
    (#[.ref a,.int j 0]:Array Rm)[0]? == some (rawInt T))=true then _ else _) Q E s
  rw[if_neg (by
   intro h
   rw[show (["enumerate","zip","dict_itemiterator","dict_reverseitemiterator","odict_iterator","itertools.zip_longest","itertools.pairwise"].contains "tuple_iterator")=false from by decide,Bool.false_and] at h
   cases h)]
  exact Qh h
theorem Oq{a l i}(x:h.IsTupleIter a l i)(e:∀o,h.get? a=some o->h'.get? a=some o):h'.IsTupleIter a l i:=let ⟨o,ho,r⟩:=x;⟨o,e _ ho,r⟩
theorem XpA{b:ZH}{x:MS}(hy:SE C n L k y (eval iter env))(hb:IO C n L env target b)(hx:SS C n L k x (execs body env))(hset:KB iter=true)(ht:Zg target=true):
  SS C n L k (Ip b y x) (exec (.For target iter body [] pos) env):=by
 intro A g Ro Rq σ l s m out T e' hno Q E h
 refine Y5 (Xu.of_toS e' hno) λu σ1 e1 e2=>?_
 refine wpAny_For (hy A g _ _ _ _ _ _ _ _ T e1 _ _ λh1 t1 Ru Rv m1 v1 G1 T1 R1=>?_) (JW hset)
 induction R1<;>try (exact absurd e2.symm hno)
 rename_i i a ha
 replace e2:Xbn x b k i l σ1 (σ1.get i)=out:=e2
 refine Mf (Jj T1) λhf1 hf2 hf3 hf4=>?_
 have hq:PS C L Ru Rv h1 out Q {s with heap:=h1,toks:=t1}:=h.step G1
 induction q:σ1.get i with
 |none=>rw[q] at e2;exact absurd e2.symm hno
 |some o=>
  rw[q] at e2
  refine Zx λ_ kk=>?_
  induction o<;>first |exact absurd e2.symm hno |(refine kk ?_;clear kk)
  ·rename_i xs
   refine YO (T1.rp.obj i _ q) λa' f1 f2 zz3=>?_;refine Y5 zz3 λvs n1 g1 g2=>?_
   rw[ha] at f1;obtain rfl:=QV f1
   refine wpAny_pyIter_list (s:={s with heap:=h1,toks:=t1}) (l:=a) (items:=vs.toArray) ⟨_,g1,rfl,n1,rfl⟩ ?_
   refine YF (T1.noOwn (h':=h1.push {cls:= .type "list_iterator",data:= .fields #[.ref a,.int 0 0]}) hf1 λb o e=>Qj _ e) λG2 T2 hI=>?_
   exact O4 (s0:={s with heap:=h1,toks:=t1}) (a:=a) g (λh j=>h.IsListIter h1.objs.size a j) hb hx (λh h' j hk hi=>hi.at hk) (λh j hi=>let ⟨o,ho,_⟩:=hi;⟨o,ho⟩) (λA s j v Q E hi h=>Xag ht hi h)
    (λs Ro Rq σ l m its j T ha e hit=>Dc g.1 T ha e hit) hno hf1 hf2 hf3 hf4 hq (λfl s' z=>z) 64 T2 G2.calm hI ⟨_,QA _ rfl,rfl,rfl⟩ ha e2
  ·rename_i xs
   refine YO (T1.rp.obj i _ q) λa' f1 f2 zz4=>?_;refine Y5 zz4 λvs n1 g1 g2=>?_
   rw[ha] at f1;obtain rfl:=QV f1
   refine wpAny_pyIter_tuple (s:={s with heap:=h1,toks:=t1}) (t:=a) (items:=vs.toArray) ⟨_,g1,rfl,n1,rfl⟩ ?_
   refine YF (T1.noOwn (h':=h1.push {cls:= .type "tuple_iterator",data:= .fields #[.ref a,.int 0 0]}) hf1 λb o e=>Qj _ e) λG2 T2 hI=>?_
   exact O4 (s0:={s with heap:=h1,toks:=t1}) (a:=a) g (λh j=>h.IsTupleIter h1.objs.size a j) hb hx (λh h' j hk hi=>Oq hi hk) (λh j hi=>let ⟨o,ho,_⟩:=hi;⟨o,ho⟩) (λA s j v Q E hi h=>XdK ht hi h)
    (λs Ro Rq σ l m its j T ha e hit=>Md g.1 T ha e hit) hno hf1 hf2 hf3 hf4 hq (λfl s' z=>z) 64 T2 G2.calm hI ⟨_,QA _ rfl,rfl,rfl⟩ ha e2
set_option tactic.hygienic false
theorem NY{a:LI}(H:Xm C.ρ F)(h:Uo F a=true): -1099511627776<=a.val C.ρ/\a.val C.ρ<=1099511627776:=by
 obtain ⟨h1,h2⟩:=YR h nofun
 have q1:JP F ⟨-1099511627776,[]⟩ a=some true:=by
  induction q:JP F ⟨-1099511627776,[]⟩ a with
  |none=>rw[q] at h1;exact ff h1
  |some b=>rw[q] at h1;rw[show b=true from h1]
 have q2:JP F a ⟨1099511627776,[]⟩=some true:=by
  induction q:JP F a ⟨1099511627776,[]⟩ with
  |none=>rw[q] at h2;exact ff h2
  |some b=>rw[q] at h2;rw[show b=true from h2]
 have r1:=Qt (Db H q1).symm
 have r2:=Qt (Db H q2).symm
 exact ⟨r1,r2⟩
theorem K1{a:Int}(h1: -1099511627776<=a)(h2:a<=1099511627776)(hn:n<=60000):Builtin.Range.small a (a + n) 1=true:=by
 have hs:Builtin.Range.rangeSize a (a + n) 1=n:=by
  rw[rangeSize_one]
  split<;>lia
 unfold Builtin.Range.small
 rw[hs]
 unfold Builtin.Range.rangeFitsLong
 simp only [Bool.and_eq_true,decide_eq_true_eq,Bool.or_eq_true]
 refine ⟨⟨⟨⟨⟨by lia,by lia⟩,by lia,by lia⟩,by lia,by lia⟩,by lia,by lia⟩,.inr ?_⟩
 rw[if_pos (by decide)]
 simp only [Bool.and_eq_true,decide_eq_true_eq]
 lia
theorem Kh(g:YK A n){x:MS}{b:ZH}(hb:IO C n L env target b)(hx:SS C n L k x (execs body env))(ht:JA target=true)
  {ads0 own0}(hno:out≠ .no)(hI0:s0.heap.get? I=none)(hIH:C.H0.get? I=none)(hIL:I≠L)(hIc:∀p∈C.cells,p.1≠I){Q:Flow->Rk->Prop}(hq:PS C L ads0 own0 s0.heap out Q s0)(hR:∀fl s',Q fl s'->R (.ok fl) s')
  (f:Nat){z:Int}{zl:LI}(hz:zl.val C.ρ=z){Ro Rq σ l m h t}(T:At C L Ro Rq σ l h m)(G:XJ (·=L) ads0 own0 s0.heap Ro Rq h)(hI:Rq I=none)(hit:IsRangeIter h I z f 1)(e:YW x b k (XI zl f) l σ=out):
  codeAny (model C.prog C.w) A (.forLoop target (.ref I) body [] env) R {s0 with heap:=h,toks:=t}:=by
 refine KI (λ(f:Nat) (s:Rk)=>∃h t,s={s0 with heap:=h,toks:=t}/\∃Ro Rq σ l m zl z,At C L Ro Rq σ l h m/\XJ (·=L) ads0 own0 s0.heap Ro Rq h/\Rq I=none/\zl.val C.ρ=z/\IsRangeIter h I z f 1/\YW x b k (XI zl f) l σ=out) λV up dn=>?_
 refine codeAny_forLoop_any V (λf s hi=>?_) f (up _ _ ⟨_,_,rfl,Ro,Rq,σ,l,m,zl,z,T,G,hI,hz,hit,e⟩)
 refine Y5 (dn _ _ hi) λh t zz6 hj=>?_;subst zz6;refine x76 hj λRo Rq σ l m zl z T G hI hz hit e=>?_
 induction f with
 |zero=>
  replace e:Zk.next l σ=out:=e
  replace hq:=hq.eq e
  refine wpAny_pyNext_range_end (s:={s0 with heap:=h,toks:=t}) g.1 hit (Int.le_refl _) λh' hk=>?_
  obtain ⟨G',T'⟩:=T.beside G hI hI0 hIH hIL hIc hk
  exact wpAny_execs_nil (hR _ _ (hq h' t Ro Rq m G' T'))
 |succ f=>
  refine YB (ZF (show oc (b l (.int zl) σ) .no (λl=>(x k l σ).to (YW x b k (XI (zl.add (Xn 1)) f)))=out from e) (λe=>hno e.symm)) λl1 e3 e4=>?_
  refine wpAny_pyNext_range_item (s:={s0 with heap:=h,toks:=t}) hit (by lia) λh' hit' hk=>?_
  have hit2:IsRangeIter h' I (z + 1) f 1:=by
   have:(((f + 1:Nat):Int) - 1)=(f:Int):=by lia
   rw[this] at hit';exact hit'
  obtain ⟨G',T'⟩:=T.beside G hI hI0 hIH hIL hIc hk.extBut
  refine D0 ht ?_
  refine hb A g Ro Rq σ l {s0 with heap:=h',toks:=t + 1} m _ _ l1 T' (.int zl z t hz) e3 _ _ λh2 t2 m2 G2 T2=>?_
  induction q2:x k l1 σ with
  |no=>rw[q2] at e4;exact absurd e4.symm hno
  |ret u σ1=>
   rw[q2] at e4
   replace hq:=hq.eq e4
   exact hx A g _ _ _ _ {s0 with heap:=h2,toks:=t2} _ _ T2 q2 nofun _ _ λh3 t3 RB RC m3 l3 val G3 T3 R3=>hR _ _ (hq h3 t3 RB RC m3 l3 val (G'.trans (G2.trans G3)) T3 R3)
  |next l2 σ1=>
   rw[q2] at e4
   refine hx A g _ _ _ _ {s0 with heap:=h2,toks:=t2} _ _ T2 q2 nofun _ _ λh3 t3 RB RC m3 G3 T3=>?_
   have hI2:=G2.keep I _ hit2 hI hIL
   have hI3:=G3.keep I _ hI2 hI hIL
   exact ⟨f,QO f,up _ _ ⟨h3,t3,rfl,RB,RC,σ1,l2,m3,zl.add (Xn 1),z + 1,T3,G'.trans (G2.trans G3),(G3.same I _ hI2).trans hI,by rw[ZS,hz,Xs],hI3,e4⟩⟩
set_option tactic.hygienic true in
theorem Ul(H:Xm C.ρ F){Ro Rq σ l s m us vs its}(T:At C L Ro Rq σ l s.heap m)(R:YH C.ρ Ro us vs)(e:Yo F us=some its)
  (h:∀(h':Heap)(t:Nat)(r:Rn)(z:Int)(zl:LI)(f:Nat) u1 u2 u3,(∀b o,s.heap.get? b=some o->h'.get? b=some o)->IsRange h' r z (z + f) 1 u1 u2 u3->zl.val C.ρ=z->its=XI zl f->f<=60000->Builtin.Range.small z (z + f) 1=true->Q (.ref r) {s with heap:=h',toks:=t}):
  wpAny (model C.prog C.w) A (call (.type "range") vs) Q E s:=by
 have fin:∀{a:LI}{kk:Option Int},Nk F a kk=some its->∃f:Nat,kk=some (f:Int)/\its=XI a f/\f<=60000/\Uo F a=true:=λ{a kk} e=>by
  unfold Nk at e
  split at e
  ·rename_i f
   refine Wg e λe1 e2=>?_
   refine Wg e2 λe3 e4=>?_
   obtain rfl:=QV e4
   exact ⟨f,rfl,rfl,Qv e3,e1⟩
  ·exact Xx e
 refine hdE e nS λu0 ur zz1 e1=>iKE e1 nS λx zz2 e2=>?_
 subst zz1 zz2
 clear e e1
 revert e2
 intro e
 induction ur with
 |nil=>
  refine R.int1E λzb tb ws hb R=>?_
  refine R.nilE ?_
  obtain ⟨f,h1,h2,h3,h4⟩:=fin e
  obtain ⟨s1,s2⟩:=NY H h4
  rw[Xs] at s1 s2
  have hzb:zb=(f:Int):=by rw[←hb,XH h1]
  subst hzb
  refine call_range_1 (h _ _ s.heap.objs.size 0 (Xn 0) f s.toks tb (s.toks + 1) (λb o e=>Qj _ e) ?_ (Xs _ _) h2 h3 (K1 s1 s2 h3))
  rw[Int.zero_add]
  exact IsRange.new ..
 |cons u1 ur=>
  refine h1E e nS λw zz1 e1=>iKE e1 nS λy zz2 e2=>?_
  cases zz1
  subst zz2
  clear e e1
  revert e2
  intro e
  refine R.int1E λza ta ws ha R=>?_
  refine R.int1E λzb tb ws hb R=>?_
  refine R.nilE ?_
  obtain ⟨f,h1,h2,h3,h4⟩:=fin e
  obtain ⟨s1,s2⟩:=NY H h4
  rw[ha] at s1 s2
  have hzb:zb=za + (f:Int):=by
   have:=XH (ρ:=C.ρ) h1
   rw[JI,ha,hb] at this
   lia
  subst hzb
  exact call_range_2 (h _ _ s.heap.objs.size za _ f _ _ _ (λb o e=>Qj _ e) (IsRange.new ..) ha h2 h3 (K1 s1 s2 h3))
theorem XlC(O:C.Ok)(H:Xm C.ρ k.F)(hE:ZC env L){rn:Str}{y:ML}{b:ZH}{x:MS}(e1:nsIn C.K mainGlobals rn=some none)(hv:bootBuiltins rn=some (.type "range"))(hn:rn≠"__name__")
  (hl:env.kindOf rn=some .globalImplicit)(hd:(rn == ("__debug__":Str))=false)(hs:Ys args=true)(hne:args≠[])
  (hy:SL C n L k y (spliced (backTo p2 (starEach args env))))(hb:IO C n L env target b)(hx:SS C n L k x (execs body env))(ht:JA target=true):
  SS C n L k (Dn b y x) (exec (.For target (.Call (.Name rn p) args [] p2) body [] pos) env):=by
 intro A g Ro Rq σ l s m out T e' hno Q E h
 induction q:y k l σ with
 |no=>
  have:(Yj.no).to Zk.no (λvs s=>oc (Yo k.F vs) Zk.no λits=>YW x b k its l s)=out:=by rw[←q];exact e'
  exact absurd this.symm hno
 |ok us σ1=>
  have e2:oc (Yo k.F us) Zk.no (λits=>YW x b k its l σ1)=out:=by
   have:(Yj.ok us σ1).to Zk.no (λvs s=>oc (Yo k.F vs) Zk.no λits=>YW x b k its l s)=out:=by rw[←q];exact e'
   exact this
  refine YB (ZF e2 (λe=>hno e.symm)) λits e3 e4=>?_
  refine wpAny_For (Call_ (JC hE T.fr O.inK O.top e1 hv hn ?_ hl hd)) (JW rfl)
  induction args with
  |nil=>exact absurd rfl hne
  |cons a r=>
   refine Zd rfl hs (hy A g _ _ _ _ _ _ _ _ T q _ _ λh1 t1 Ru Rv m1 v1 G1 T1 R1=>?_)
   refine Ul (s:={s with heap:=h1,toks:=t1}) H T1 R1 e3 λh2 t2 ra z zl f u1 u2 u3 hk2 hr hz hits hf hsm=>?_
   obtain ⟨G2,T2⟩:=T1.kept hk2
   refine Mf (Jj T2) λhf1 hf2 hf3 hf4=>?_
   have hq:PS C L Ru Rv h2 out Q {s with heap:=h2,toks:=t2}:=h.step (G1.trans G2)
   refine wpAny_pyIter_range (s:={s with heap:=h2,toks:=t2}) hr hsm ?_
   refine YF (T2.noOwn (h':=h2.push {cls:= .type "range_iterator",data:= .fields #[rawInt z,rawInt (Builtin.Range.rangeSize z (z + f) 1),rawInt 1]}) hf1 λb o e=>Qj _ e) λG3 T3 hI=>?_
   have hsz:Builtin.Range.rangeSize z (z + f) 1=f:=by
    rw[rangeSize_one]
    split<;>lia
   subst hits
   refine Kh (s0:={s with heap:=h2,toks:=t2}) g hb hx ht hno hf1 hf2 hf3 hf4 hq (λfl s' z=>z) f hz T3 G3.calm hI ?_ e4
   rw[hsz]
   exact QA _ rfl
theorem Xfq{t:MB}{x:MS}:Xcb t x k 0 l σ= .no:=rfl
theorem Xfp{t:MB}{x:MS}:Xcb t x k (f + 1) l σ=(t k l σ).to .no λc σ=>bc c ((x k l σ).to (Xcb t x k f)) (.next l σ):=rfl
theorem XpC{t:MB}{x:MS}{c:Expr}(ht:SB C n L k t (isTrue c env (eval c env)))(hx:SS C n L k x (execs body env)):SS C n L k (Xmi t x) (exec (.While c body [] pos) env):=by
 intro A g ads0 own0 σ0 l0 s0 m0 out T0 e0 hno Q E hq
 refine KI (λ(f:Nat) (s:Rk)=>∃h tk,s={s0 with heap:=h,toks:=tk}/\∃Ro Rq σ l m,At C L Ro Rq σ l h m/\XJ (·=L) ads0 own0 s0.heap Ro Rq h/\Xcb t x k f l σ=out) λV up dn=>?_
 refine wpAny_While (codeAny_whileLoop V (λf s hi=>?_) 40 (up _ _ ⟨_,_,rfl,ads0,own0,σ0,l0,m0,T0,.refl,e0⟩))
 refine Y5 (dn _ _ hi) λh tk zz8 hj=>?_;subst zz8;refine x53 hj λRo Rq σ l m T G e=>?_
 induction f with
 |zero=>exact absurd (Xfq.symm.trans e).symm hno
 |succ f=>
  rw[Xfp] at e
  refine Y5 (ZI.of_toS e hno) λb σ1 e1 e2=>?_
  refine ht A g _ _ _ _ {s0 with heap:=h,toks:=tk} _ _ _ T e1 _ _ λh1 t1 Ru Rv m1 G1 T1=>?_
  induction b with
  |false=>
   replace e2:Zk.next l σ1=out:=e2
   replace hq:=hq.eq e2
   exact wpAny_execs_nil (hq h1 t1 Ru Rv m1 (G.trans G1) T1)
  |true=>
   replace e2:(x k l σ1).to (Xcb t x k f)=out:=e2
   show wpAny _ _ _ _ _ _
   induction q2:x k l σ1 with
   |no=>rw[q2] at e2;exact absurd e2.symm hno
   |ret u σ2=>
    rw[q2] at e2
    replace hq:=hq.eq e2
    exact hx A g _ _ _ _ {s0 with heap:=h1,toks:=t1} _ _ T1 q2 nofun _ _ λh3 t3 RB RC m3 l3 val G3 T3 R3=>hq h3 t3 RB RC m3 l3 val ((G.trans G1).trans G3) T3 R3
   |next l2 σ2=>
    rw[q2] at e2
    exact hx A g _ _ _ _ {s0 with heap:=h1,toks:=t1} _ _ T1 q2 nofun _ _ λh3 t3 RB RC m3 G3 T3=>⟨f,QO f,up _ _ ⟨h3,t3,rfl,RB,RC,σ2,l2,m3,T3,(G.trans G1).trans G3,e2⟩⟩
end
theorem OR.adopt(x:OR ρ Ro Rq h i a o)(p:Ro <+:Rr)(ho:∀b,Rq b=some i->Rt b=Rq b):OR ρ Rr Rt h i a o:=by
 induction o with
 |wheel es r g=>
  refine x36 x λρw adw rs l h1 h2 h3 h4 h5=>?_
  exact ⟨ρw,adw,rs,l,h1,h2,λb hb=>(ho b (h3 b hb)).trans (h3 b hb),h4,h5⟩
 |inst c d=>exact JR.mono (ρ:=ρ) (o:= .inst c d) x p λo e=>e
 |flds c l=>exact JR.mono (ρ:=ρ) (o:= .flds c l) x p λo e=>e
 |list l=>exact JR.mono (ρ:=ρ) (o:= .list l) x p λo e=>e
 |tup l=>exact JR.mono (ρ:=ρ) (o:= .tup l) x p λo e=>e
 |idict l=>exact JR.mono (ρ:=ρ) (o:= .idict l) x p λo e=>e
 |barr=>exact JR.mono (ρ:=ρ) (o:= .barr) x p λo e=>e
 |src l=>exact JR.mono (ρ:=ρ) (o:= .src l) x p λo e=>e
theorem MR:∀{fv:List Nat}{n:Nat}{v:V},Xh (YX l fv) n=some v->n∈fv/\Xh l n=some v:=by
 intro ux
 induction ux with
 |nil=>
  intro _ _ h
  exact Xx h
 |cons k r ih=>
  intro n v h
  induction q:Xh l k with
  |none=>
   have e:YX l (k::r)=YX l r:=by show @Option.rec V (λ_=>YG) (YX l r) (λv=>(k,v)::YX l r) (Xh l k)=_;rw[q]
   rw[e] at h
   obtain ⟨h1,h2⟩:=ih h
   exact ⟨Qm _ h1,h2⟩
  |some u=>
   have e:YX l (k::r)=(k,u)::YX l r:=by show @Option.rec V (λ_=>YG) (YX l r) (λv=>(k,v)::YX l r) (Xh l k)=_;rw[q]
   rw[e] at h
   by_cases hk:k=n
   ·subst hk
    have:Xh ((k,u)::YX l r) k=some u:=by show bc (Nat.beq k k) (some u) _=_;rw[QI]
    rw[this] at h
    obtain rfl:=QV h
    exact ⟨Ql,q⟩
   ·have:Xh ((k,u)::YX l r) n=Xh (YX l r) n:=by show bc (Nat.beq k n) _ (Xh (YX l r) n)=_;rw[Yl hk]
    rw[this] at h
    obtain ⟨h1,h2⟩:=ih h
    exact ⟨Qm _ h1,h2⟩
theorem Rp.adopt(R:Rp C Ro Rq σ h)(ha:Rq a=none)(h0':C.H0.get? a=none)(ho:OR C.ρ (Ro++[a]) (λb=>if b=a then some σ.n else Rq b) h σ.n a o'):
  Rp C (Ro++[a]) (λb=>if b=a then some σ.n else Rq b) ⟨σ.h.set o' σ.n,σ.n + 1⟩ h where
 len:=by rw[Qw,R.len];rfl
 old b o e:=by
  have:b≠a:=by rintro rfl;rw[h0'] at e;cases e
  show (if b=a then some σ.n else Rq b)=none
  rw[if_neg this];exact R.old b o e
 keep:=R.keep
 big:=R.big
 obj j x e:=by
  rcases Tr.set_get e with ⟨rfl,rfl⟩ |⟨e1,e2⟩
  ·exact ⟨a,by rw[←R.len];exact QU,if_pos rfl,ho⟩
  ·refine YO (R.obj j x e2) λb h1 h2 h3=>?_
   have hne:∀c i,Rq c=some i->c≠a:=by rintro c i hc rfl;rw[ha] at hc;cases hc
   exact ⟨b,Yb (Qr _ _) h1,(if_neg (hne b j h2)).trans h2,h3.adopt (Qr _ _) λc hc=>if_neg (hne c j hc)⟩
theorem Xbf{elt:Expr}{it acc:Rm}(ht:Zg target=true)(I:Nat->Rk->Prop)
  (turn:∀n s,I n s->wpAny (model C.prog C.w) A (pyNext it) (λr s₁=>match r with
   |none=>R (.ok .next) s₁
   |some v=>wpAny (model C.prog C.w) A (letOwnedTupleGo target it v) (λ_ s₁'=>wpAny (model C.prog C.w) A (assign target env v) (λ_ s₂=>
     wpAny (model C.prog C.w) A (eval elt env) (λx s₄=>
       wpAny (model C.prog C.w) A (call (.builtin "list.append") [acc,x]) (λ_ s₅=>∃m,m < n/\I m s₅) (notedBy (model C.prog C.w) A env λe s'=>R (.error e) s') s₄) (notedBy (model C.prog C.w) A env λe s'=>R (.error e) s') s₂)
     (notedBy (model C.prog C.w) A env λe s'=>R (.error e) s') s₁') (notedBy (model C.prog C.w) A env λe s'=>R (.error e) s') s₁) (notedBy (model C.prog C.w) A env λe s'=>R (.error e) s') s)
  (n:Nat)(h:I n s):codeAny (model C.prog C.w) A (.compLoop (.ListComp elt [⟨target,iter,[],0⟩] scope pos) 0 it acc env) R s:=by
 cases target<;>try (exact ff ht;done)
 ·refine codeAny_compLoop_list I (λn s hI=>wpAny_mono (turn n s hI) (λr s₁ h₁=>?_) λ_ _ z=>z) n h
  induction r with
  |none=>exact h₁
  |some v=>
   intro Γ p hΓ
   have h₂:=h₁ Γ p hΓ
   exact h₂ Γ p hΓ
 ·exact LCp.codeAny_compLoop_pair I turn n h
theorem MG{item:XaO}{elt:M}{b:ZH}:JV item elt b k l (f + 1) j σ=oc (item j σ) .no λo=> @Option.rec V (λ_=>Yj) (.ok [] σ) (λv=>oc (b l v σ) .no λl'=>(elt k l' σ).to .no λx s=>(JV item elt b k l f (j + 1) s).to .no λxs s=> .ok (x::xs) s) o:=rfl
structure Xfx(C:Cx)(target:Expr)(ads0:List Rn)(I:Rn)(item:XaO)(IsIt:Heap->Nat->Prop):Prop where
 go:∀(A:Around) s j v (Q:Unit->Rk->Prop) E,IsIt s.heap j->Q () s->wpAny (model C.prog C.w) A (letOwnedTupleGo target (.ref I) v) Q E s
 keep:∀h h' j,(∀o,h.get? I=some o->h'.get? I=some o)->IsIt h j->IsIt h' j
 live:∀h j,IsIt h j->∃o,h.get? I=some o
 self:∀(A:Around) s j (Q:Rm->Rk->Prop) E,IsIt s.heap j->Q (.ref I) s->wpAny (model C.prog C.w) A (pyIter (.ref I)) Q E s
 next:∀(A:Around),A.handled=none->∀(L':Rn) s Ro Rq σ l m j o,At C L' Ro Rq σ l s.heap m->ads0 <+:Ro->IsIt s.heap j->item j σ=some o->∀(Q:Option Rm->Rk->Prop)(E:Rm->Rk->Prop),
  (∀y v h' t,o=some v->VR C.ρ Ro v y->IsIt h' (j + 1)->Heap.ExtBut I s.heap h'->Q (some y) {s with heap:=h',toks:=t})->
  (∀h',o=none->Heap.ExtBut I s.heap h'->Q none {s with heap:=h'})->wpAny (model C.prog C.w) A (pyNext (.ref I)) Q E s
theorem Rp.beside(R:Rp C Ro Rq σ h)(hI:Rq I=none)(hIH:C.H0.get? I=none)(hk:Heap.ExtBut I h h')(hb:C.H0.objs.size<=h'.objs.size):Rp C Ro Rq σ h' where
 len:=R.len
 old:=R.old
 keep b o e:=hk b o (by rintro rfl;rw[hIH] at e;cases e) (R.keep b o e)
 big:=hb
 obj j o e:=by
  refine YO (R.obj j o e) λa h1 h2 h3=>?_
  exact ⟨a,h1,h2,h3.mono h2 Qy (λb o hb e=>hk b o (by rintro rfl;rw[hI] at hb;cases hb) e) λ_ _=>rfl⟩
theorem XJ.beside{X:Rn->Prop}(G:XJ X ads0 own0 h0 Ro Rq h)(hI0:h0.get? I=none)(hk:Heap.ExtBut I h h'):XJ X ads0 own0 h0 Ro Rq h':=by
 have hne:∀{b o},h0.get? b=some o->b≠I:=by
  rintro b o e rfl
  rw[hI0] at e;exact Xx e
 exact ⟨G.pre,G.same,λb o e hn hb=>hk b o (hne e) (G.keep b o e hn hb),λb o e=>by
  obtain ⟨o',e'⟩:=G.live b o e
  exact ⟨o',hk b o' (hne e) e'⟩⟩
theorem Xgw(x:LR C Ro l m)(hfv:∀i∈fv,∀y,Zc[i]?=some y->(C.cellv.lookup y).isSome=true):∀Rr,Ro <+:Rr->∀m',LR C Rr (YX l fv) m':=λRr p m' i v e=>by
 obtain ⟨h1,h2⟩:=MR e
 refine UB (x i v h2) λa b e1 e2 e3=>?_
 refine ⟨a,b,e1,?_,e3.mono p⟩
 have:=hfv i h1 a e1
 unfold IP at e2 ⊢
 induction q:C.cellv.lookup a with
 |none=>rw[q] at this;exact ff this
 |some z=>rw[q] at e2;exact e2
theorem DV(g:YK A n){b:ZH}{item:XaO}{IsIt:Heap->Nat->Prop}(ht:Zg target=true)(hcell:∀y∈scope.names,y.2≠ .cell)(hkind:scope.kind= .function)
  (hb:∀L',IO C n L' (compEnvC scope cl L' env) target b)(hx:∀L',SE C n L' k x (eval e (compEnvC scope cl L' env)))(hfv:∀i∈fv,∀y,Zc[i]?=some y->(C.cellv.lookup y).isSome=true)
  (T0:At C L ads0 own0 σ l h0 m)(T:At C L ads0 Rq σ l s.heap m)(GB:XJ (λ_=>False) ads0 own0 h0 ads0 Rq s.heap)
  (hIt:Xfx C target ads0 I item IsIt)(hI:Rq I=none)(hIs:IsIt s.heap 0)(hI0:h0.get? I=none)(hIH:C.H0.get? I=none)
  {σ'':St}(e1:JV item x b k (YX l fv) 64 0 σ= .ok us σ')(e2:Nd σ' us= .ok v σ'')(h:PE C L ads0 own0 h0 σ'' l v Q s):
  wpAny (model C.prog C.w) A (newList []) (λacc s₃=>wpAny (model C.prog C.w) A (newFunctionEnv scope env.globals cl [] env.qual none .none (some env)) (λcenv s₄=>
   codeAny (model C.prog C.w) A (.compStart (.ListComp e [⟨target,iter,[],0⟩] scope pos) 0 (.ref I) acc {cenv with scope:=relabel scope env}) (compPost (model C.prog C.w) A E none Q acc cenv.locals) s₄) E s₃) E s:=by
 refine wpAny_newObj_type (wpAny_newFunctionEnv hcell (by intro y hy;simp at hy) (λh₁ hns₁ hsb₁=>?_) hkind)
 dsimp only at hns₁ hsb₁ ⊢
 generalize hH2:s.heap.push {cls:= .type "list",dict:=none,data:= .seq ([]:List Rm).toArray}=H2 at hns₁ hsb₁ ⊢
 have hC:H2.objs.size=s.heap.objs.size + 1:=by rw[←hH2,Heap.size_push]
 refine Mf (Jj T) λfD1 fD2 fD3 fD4=>?_
 obtain ⟨oI,hoI⟩:=hIt.live _ _ hIs
 have hID:I≠s.heap.objs.size:=Qz (Qu hoI)
 have kD:∀b o,s.heap.get? b=some o->H2.get? b=some o:=λb o e=>hH2▸Qj _ e
 refine YF (T.noOwn (h':=H2) fD1 kD) λG2 T2 oD2=>?_
 refine Mf (Jj T2) λfC1 fC2 fC3 fC4=>?_
 have kC:∀b o,H2.get? b=some o->h₁.get? b=some o:=λb o e=>hsb₁.extBut b o (Qz (Qu e)) (Qj _ e)
 refine YF (T2.noOwn (h':=h₁) fC1 kC) λG3 T3 oC3=>?_
 have hDC:s.heap.objs.size≠H2.objs.size:=by rw[hC];exact Qz (QO _)
 have hIC:I≠H2.objs.size:=Qz (Qu (kD _ _ hoI))
 generalize hown:(λb=>if b=H2.objs.size then none else (λb=>if b=s.heap.objs.size then none else Rq b) b)=RC at G3 T3 oC3
 have oD3:RC s.heap.objs.size=none:=by rw[←hown];show (if _ then none else (if _ then none else _))=none;rw[if_neg hDC,if_pos rfl]
 have oI3:RC I=none:=by rw[←hown];show (if _ then none else (if _ then none else _))=none;rw[if_neg hIC,if_neg hID];exact hI
 have GB3:=(GB.trans G2).trans G3
 have hD1:h₁.get? s.heap.objs.size=some (Yp "list" [] 0):=kC _ _ (hH2▸QA _ rfl)
 have hI1:h₁.get? I=some oI:=kC _ _ (kD _ _ hoI)
 have it1:IsIt h₁ 0:=hIt.keep _ _ _ (λo e=>by rw[hoI] at e;obtain rfl:=QV e;exact hI1) hIs
 have hD0:h0.get? s.heap.objs.size=none:=by
  induction q:h0.get? s.heap.objs.size with
  |none=>rfl
  |some o=>obtain ⟨o',e'⟩:=GB.live _ _ q;exact absurd (Qu e') (Nat.lt_irrefl _)
 have hC0:h0.get? H2.objs.size=none:=by
  induction q:h0.get? H2.objs.size with
  |none=>rfl
  |some o=>obtain ⟨o',e'⟩:=(GB.trans G2).live _ _ q;exact absurd (Qu e') (Nat.lt_irrefl _)
 have hDH:C.H0.get? s.heap.objs.size=none:=fD2
 have hCH:C.H0.get? H2.objs.size=none:=fC2
 have lf:=Xgw (C:=C) T0.lr hfv
 have F3:Fr C.H0 H2.objs.size h₁ (λx=>([]:List (Str×Rm)).reverse.lookup x):=⟨hns₁,λb o e=>kC b o (kD b o (T.fr.keep b o e)),by rw[hC];exact QH (JS T.fr) (Nat.le_succ _)⟩
 have TF:At C H2.objs.size ads0 RC σ (YX l fv) h₁ (λx=>([]:List (Str×Rm)).reverse.lookup x):=⟨T3.rp,F3,oC3,lf _ Qy _,λp hp=>⟨(T3.cel p hp).1,(T3.cel p hp).2.1,fC4 p hp⟩⟩
 have hnc:∀p∈C.cells,p.1≠I:=λp hp e=>by
  have:=(T0.cel p hp).2.1
  rw[e,hI0] at this;exact Xx this
 have hnd:∀p∈C.cells,p.1≠s.heap.objs.size:=fD4
 have fin:∀{Ro Rq h us1 ys nn t h'},Rp C Ro Rq σ' h->XJ (λ_=>False) ads0 own0 h0 Ro Rq h->Rq s.heap.objs.size=none->Rq H2.objs.size=none->h.get? s.heap.objs.size=some (Yp "list" ys nn)->YH C.ρ Ro us1 ys->us1=us->Heap.SameBut H2.objs.size h h'->
   Q (.ref s.heap.objs.size) {s with heap:=h',toks:=t}:=λ{Ro Rq h us1 ys nn t h'} R G oD oC hD Rs hus hs=>by
  subst hus
  refine Ny (show bc (XU us1) (UU σ' (.list us1)) .no= .ok v σ'' from e2) λhlen e3=>?_
  cases e3
  have G':=G.beside hC0 hs.extBut
  obtain ⟨oL,hoL⟩:=N4 T0.fr
  obtain ⟨oL',hoL'⟩:=G'.live L oL hoL
  have hbig:C.H0.objs.size<=h'.objs.size:=QH T0.fr.above (Nat.le_of_lt (Qu hoL'))
  have R':=R.beside oC hCH hs.extBut hbig
  have hD':h'.get? s.heap.objs.size=some (Yp "list" ys nn):=hs.extBut _ _ hDC hD
  have R2:=R'.adopt (a:=s.heap.objs.size) (o':= .list us1) oD hDH ⟨ys,nn,hD',Rs.mono (Qr _ _)⟩
  have G2:XJ (λ_=>False) ads0 own0 h0 (Ro++[s.heap.objs.size]) (λb=>if b=s.heap.objs.size then some σ'.n else Rq b) h':=⟨G'.pre.trans (Qr _ _),λb o e=>by
   have hne:b≠s.heap.objs.size:=by rintro rfl;rw[hD0] at e;cases e
   exact (if_neg hne).trans (G'.same b o e),G'.keep,G'.live⟩
  exact h h' t _ _ m _ G2.calm (T0.called G2 R2) (.ref _ _ (by rw[←R.len];exact QU))
 have main:∀t1,codeAny (model C.prog C.w) A (.compLoop (.ListComp e [⟨target,iter,[],0⟩] scope pos) 0 (.ref I) (.ref s.heap.objs.size) (compEnvC scope cl H2.objs.size env)) (compPost (model C.prog C.w) A E none Q (.ref s.heap.objs.size) H2.objs.size) {s with heap:=h₁,toks:=t1}:=λt1=>by
  refine KI (λ(f:Nat) (s':Rk)=>∃h t,s'={s with heap:=h,toks:=t}/\∃Ro Rq σ m' j ys nn us1 us2,At C H2.objs.size Ro Rq σ (YX l fv) h m'/\XJ (λ_=>False) ads0 own0 h0 Ro Rq h/\Rq I=none/\Rq s.heap.objs.size=none/\IsIt h j/\
    h.get? s.heap.objs.size=some (Yp "list" ys nn)/\YH C.ρ Ro us1 ys/\JV item x b k (YX l fv) f j σ= .ok us2 σ'/\us1++us2=us) λV up dn=>?_
  refine Xbf ht V (λf s' hi=>?_) 64 (up _ _ ⟨_,_,rfl,ads0,RC,σ,_,0,[],0,[],us,TF,GB3,oI3,oD3,it1,hD1,.nil,e1,rfl⟩)
  refine Y5 (dn _ _ hi) λh4 t4 zz3 hj=>?_;subst zz3;refine x98 hj λRo Rq σ1 m' j ys nn us1 us2 T4 G4 oI4 oD4 it4 hD4 R4 zz1=>?_;obtain ⟨e4,hus⟩:=zz1
  induction f with
  |zero=>exact lno e4
  |succ f=>
   rw[MG] at e4
   refine ocL e4 λo e5 e6=>?_
   refine hIt.next A g.1 H2.objs.size {s with heap:=h4,toks:=t4} Ro Rq σ1 (YX l fv) m' j o T4 G4.pre it4 e5 _ _ (λy u h5 t5 ho hu it5 hk5=>?_) (λh5 ho hk5=>?_)
   ·rw[ho] at e6
    refine ocL (show oc (b (YX l fv) u σ1) Yj.no (λl'=>(x k l' σ1).to Yj.no λz s=>(JV item x b k (YX l fv) f (j + 1) s).to Yj.no λzs s=>Yj.ok (z::zs) s)=Yj.ok us2 σ' from e6) λl' e7 e8=>?_
    refine Xv7 e8 λz σ2 e9 e10=>?_
    refine Xv6 e10 λzs σ3 e11 e12=>?_
    obtain ⟨f13,f14⟩:=okL e12
    obtain ⟨G5,T5⟩:=T4.beside G4 oI4 hI0 hIH hIC hnc hk5
    have hD5:h5.get? s.heap.objs.size=some (Yp "list" ys nn):=hk5 _ _ hID.symm hD4
    refine hIt.go A {s with heap:=h5,toks:=t5} (j + 1) y _ _ it5 ?_
    refine hb _ A g Ro Rq σ1 (YX l fv) {s with heap:=h5,toks:=t5} m' u y l' T5 hu e7 _ _ λh6 t6 m6 G6 T6=>?_
    refine hx _ A g Ro Rq σ1 l' {s with heap:=h6,toks:=t6} m6 z σ2 T6 e9 _ _ λh7 t7 ads7 own7 m7 xv G7 T7 R7=>?_
    have hI5:=hIt.live _ _ it5
    obtain ⟨oI5,hoI5⟩:=hI5
    have hI6:=G6.keep I _ hoI5 oI4 hIC
    have hI7:=G7.keep I _ hI6 oI4 hIC
    have hD6:=G6.keep _ _ hD5 oD4 hDC
    have hD7:=G7.keep _ _ hD6 oD4 hDC
    have oI7:own7 I=none:=(G7.same I _ hI6).trans oI4
    have oD7:own7 s.heap.objs.size=none:=(G7.same _ _ hD6).trans oD4
    have G57:XJ (λ_=>False) ads0 own0 h0 ads7 own7 h7:=⟨G5.pre.trans (G6.pre.trans G7.pre),λb o e=>by
     obtain ⟨o5,e5⟩:=G5.live b o e
     obtain ⟨o6,e6⟩:=G6.live b o5 e5
     exact ((G7.same b o6 e6).trans (G6.same b o5 e5)).trans (G5.same b o e),λb o e hn hf=>by
     have hbC:b≠H2.objs.size:=by rintro rfl;rw[hC0] at e;cases e
     have e5:=G5.keep b o e hn hf
     have n5:=(G5.same b o e).trans hn
     have e6:=G6.keep b o e5 n5 hbC
     exact G7.keep b o e6 ((G6.same b o e5).trans n5) hbC,λb o e=>by
     obtain ⟨o5,e5⟩:=G5.live b o e
     obtain ⟨o6,e6⟩:=G6.live b o5 e5
     exact G7.live b o6 e6⟩
    have hlen:ys.length<=60000:=by
     have h1:=Yc (YR (show bc (XU us) (UU σ' (.list us)) .no= .ok v σ'' from e2) nofun).1
     rw[←hus,Qw,R4.length] at h1
     lia
    refine append_at (s:={s with heap:=h7,toks:=t7}) (hsz:=by show ys.toArray.size<=sizeLine;rw[Qx];unfold sizeLine;lia) hD7 λh8 hs8 hD8=>?_
    obtain ⟨G8,T8⟩:=T7.beside G57 oD7 hD0 hDH hDC hnd hs8.extBut
    have it8:IsIt h8 (j + 1):=hIt.keep _ _ _ (λo e=>by rw[hoI5] at e;obtain rfl:=QV e;exact hs8.extBut _ _ hID hI7) it5
    exact ⟨f,QO f,up _ _ ⟨h8,_,rfl,ads7,own7,σ2,m7,j + 1,ys++[xv],nn + 1,us1++[z],zs,⟨T8.rp,T8.fr,T8.ownL,lf _ G57.pre _,T8.cel⟩,G8,oI7,oD7,it8,by rw[hD8];simp,((R4.mono G6.pre).mono G7.pre).app (.cons R7 .nil),f14▸e11,by rw[←hus,←f13];simp⟩⟩
   ·rw[ho] at e6
    obtain ⟨f13,f14⟩:=okL (show Yj.ok [] σ1= .ok us2 σ' from e6)
    obtain ⟨G5,T5⟩:=T4.beside G4 oI4 hI0 hIH hIC hnc hk5
    have hD5:h5.get? s.heap.objs.size=some (Yp "list" ys nn):=hk5 _ _ hID.symm hD4
    exact ⟨m',T5.fr.ns,λh6 hs6=>fin (f14▸T5.rp) G5 oD4 T5.ownL hD5 R4 (by rw[←hus,←f13,List.append_nil]) hs6⟩
 exact codeAny_compStart_list (main _) (hIt.self A {s with heap:=h₁,toks:=s.toks + ([]:List (Str×Rm)).length} 0 _ _ it1 (main _))
theorem XkT(ht:Zg target=true)(ha:ads0[i]?=some a):Xfx C target ads0 I (W8 Y7 i) (λh j=>h.IsListIter I a j) where
 go A s j v Q E hi h:=Xag ht hi h
 keep h h' j hk hi:=hi.at hk
 live h j hi:=let ⟨o,ho,_⟩:=hi;⟨o,ho⟩
 self A s j Q E hi h:=wpAny_pyIter_listiter hi h
 next A hh L' s Ro Rq σ l m j o T p hit e Q E h1 h2:=by
  refine Z8 (show oc (Y7 (σ.get i)) none (λits=>some (Zn its j))=some o from e) λits e1 e2=>?_
  obtain rfl:=QV e2
  obtain ⟨n1,n2⟩:=Dc hh T (Yb p ha) e1 hit
  induction q:its[j]? with
  |none=>exact n2 _ _ q λh' hs=>h2 h' (by rw[Zo,q]) hs
  |some v=>exact n1 v _ _ q λy h' hv hit' hs=>h1 y v h' s.toks (by rw[Zo,q]) hv hit' hs
theorem Xn6(ht:Zg target=true)(ha:ads0[i]?=some a):Xfx C target ads0 I (W8 It i) (λh j=>h.IsTupleIter I a j) where
 go A s j v Q E hi h:=XdK ht hi h
 keep h h' j hk hi:=Oq hi hk
 live h j hi:=let ⟨o,ho,_⟩:=hi;⟨o,ho⟩
 self A s j Q E hi h:=wpAny_pyIter_tupleiter hi h
 next A hh L' s Ro Rq σ l m j o T p hit e Q E h1 h2:=by
  refine Z8 (show oc (It (σ.get i)) none (λits=>some (Zn its j))=some o from e) λits e1 e2=>?_
  obtain rfl:=QV e2
  obtain ⟨n1,n2⟩:=Md hh T (Yb p ha) e1 hit
  induction q:its[j]? with
  |none=>exact n2 _ _ q λh' hs=>h2 h' (by rw[Zo,q]) hs
  |some v=>exact n1 v _ _ q λy h' hv hit' hs=>h1 y v h' s.toks (by rw[Zo,q]) hv hit' hs
theorem Wl:∀{f:Nat}{a:LI}{j:Nat},(j < f->∃li,(XI a f)[j]?=some (.int li)/\li.val ρ=a.val ρ + j)/\(f<=j->(XI a f)[j]?=none):=by
 intro f
 induction f with
 |zero=>exact λ{a j}=>⟨λh=>absurd h (Nat.not_lt_zero _),λ_=>rfl⟩
 |succ f ih=>
  intro a j
  induction j with
  |zero=>exact ⟨λ_=>⟨a,rfl,(Rb _).symm⟩,λh=>absurd h (Nat.not_succ_le_zero _)⟩
  |succ j _=>
   refine ⟨λh=>?_,λh=>(ih (a:=a.add (Xn 1)) (j:=j)).2 (Nat.le_of_succ_le_succ h)⟩
   refine YB ((ih (a:=a.add (Xn 1)) (j:=j)).1 (Nat.lt_of_succ_lt_succ h)) λli e1 e2=>?_
   exact ⟨li,e1,by rw[e2,ZS,Xs,Int.add_assoc,Int.add_comm 1];rfl⟩
theorem XgL{z:Int}{zl:LI}(ht:JA target=true)(hz:zl.val C.ρ=z):Xfx C target ads0 I (Xjs (XI zl f)) (λh j=>IsRangeIter h I (z + j) (f - j) 1) where
 go A s j v Q E hi h:=D0 ht h
 keep h h' j hk hi:=hk _ hi
 live h j hi:=⟨_,hi⟩
 self A s j Q E hi h:=wpAny_pyIter_rangeiter hi h
 next A hh L' s Ro Rq σ l m j o T p hit e Q E h1 h2:=by
  replace e:some (Zn (XI zl f) j)=some o:=e
  obtain rfl:=QV e
  by_cases hj:j < f
  ·obtain ⟨li,e1,e2⟩:=(Wl (ρ:=C.ρ)).1 hj
   refine wpAny_pyNext_range_item hit (by lia) λh' hit' hs=>?_
   refine h1 _ (.int li) h' (s.toks + 1) (by rw[Zo,e1]) (.int li _ _ (by rw[e2,hz])) ?_ hs.extBut
   have w1:(z + (j:Int) + 1)=z + ((j + 1:Nat):Int):=by push_cast;lia
   have w2:((f:Int) - j - 1)=(f:Int) - ((j + 1:Nat):Int):=by push_cast;lia
   rw[w1,w2] at hit'
   exact hit'
  ·refine wpAny_pyNext_range_end hh hit (by lia) λh' hs=>h2 h' ?_ hs
   rw[Zo,(Wl (ρ:=C.ρ)).2 (by lia)]
set_option tactic.hygienic true in
theorem Xpy{b:ZH}(hy:SE C n L k y (eval iter env))(ht:Zg target=true)(hcell:∀y∈scope.names,y.2≠ .cell)(hkind:scope.kind= .function)
  (hb:∀L',IO C n L' (compEnvC scope cl L' env) target b)(hx:∀L',SE C n L' k x (eval e (compEnvC scope cl L' env)))(hfv:∀i∈fv,∀y,Zc[i]?=some y->(C.cellv.lookup y).isSome=true)
  (hset:KB iter=true)(hclos:closureFor scope env=pure cl)(hnames:∀x∈scope.names,x.2= .local->scope.names.lookup x.1=some .local):
  SE C n L k (Uu x b fv y) (eval (.ListComp e [⟨target,iter,[],0⟩] scope pos) env):=by
 intro A g Ro Rq σ l s m v σ' T e' Q E h
 refine Js e' λu σ1 e1 e2=>?_
 refine Ir e2 λus σ2 e3 e4=>?_
 rw[eval_ListComp]
 refine wpAny_comprehension_free (use:=none) rfl (JW hset) hclos hkind hnames (hy A g _ _ _ _ _ _ _ _ T e1 _ _ λh1 t1 Ru Rv m1 v1 G1 T1 R1=>?_)
 induction R1<;>try (exact lno e3;done)
 rename_i i a ha
 replace e3:Xc1 x b k (YX l fv) i σ1 (σ1.get i)= .ok us σ2:=e3
 refine Mf (Jj T1) λhf1 hf2 hf3 hf4=>?_
 have hq:PE C L Ru Rv h1 σ' l v Q {s with heap:=h1,toks:=t1}:=h.step G1
 induction q:σ1.get i with
 |none=>rw[q] at e3;exact lno e3
 |some o=>
  rw[q] at e3
  refine YO (T1.rp.obj i _ q) λa' f1 f2 f3=>?_
  rw[ha] at f1;obtain rfl:=QV f1
  refine Zx λ_ kk=>?_
  induction o<;>first |exact lno e3 |(refine kk ?_;clear kk)
  ·refine Y5 f3 λvs n1 g1 g2=>?_
   refine wpAny_pyIter_list (s:={s with heap:=h1,toks:=t1}) (l:=a) (items:=vs.toArray) ⟨_,g1,rfl,n1,rfl⟩ ?_
   refine YF (T1.noOwn (h':=h1.push {cls:= .type "list_iterator",data:= .fields #[.ref a,.int 0 0]}) hf1 λb o e=>Qj _ e) λG2 T2 hI=>?_
   exact DV (s:={s with heap:=h1.push {cls:= .type "list_iterator",data:= .fields #[.ref a,.int 0 0]},toks:=t1}) g ht hcell hkind hb hx hfv T1 T2 G2 (XkT ht ha) hI ⟨_,QA _ rfl,rfl,rfl⟩ hf1 hf2 e3 e4 hq
  ·refine Y5 f3 λvs n1 g1 g2=>?_
   refine wpAny_pyIter_tuple (s:={s with heap:=h1,toks:=t1}) (t:=a) (items:=vs.toArray) ⟨_,g1,rfl,n1,rfl⟩ ?_
   refine YF (T1.noOwn (h':=h1.push {cls:= .type "tuple_iterator",data:= .fields #[.ref a,.int 0 0]}) hf1 λb o e=>Qj _ e) λG2 T2 hI=>?_
   exact DV (s:={s with heap:=h1.push {cls:= .type "tuple_iterator",data:= .fields #[.ref a,.int 0 0]},toks:=t1}) g ht hcell hkind hb hx hfv T1 T2 G2 (Xn6 ht ha) hI ⟨_,QA _ rfl,rfl,rfl⟩ hf1 hf2 e3 e4 hq
theorem Xlu(O:C.Ok)(H:Xm C.ρ k.F)(hE:ZC env L){rn:Str}{y:ML}{b:ZH}(e1:nsIn C.K mainGlobals rn=some none)(hv:bootBuiltins rn=some (.type "range"))(hn:rn≠"__name__")
  (hl:env.kindOf rn=some .globalImplicit)(hd:(rn == ("__debug__":Str))=false)(hs:Ys args=true)(hne:args≠[])
  (hy:SL C n L k y (spliced (backTo p2 (starEach args env))))(ht:JA target=true)(hcell:∀y∈scope.names,y.2≠ .cell)(hkind:scope.kind= .function)
  (hb:∀L',IO C n L' (compEnvC scope cl L' env) target b)(hx:∀L',SE C n L' k x (eval e (compEnvC scope cl L' env)))(hfv:∀i∈fv,∀y,Zc[i]?=some y->(C.cellv.lookup y).isSome=true)
  (hclos:closureFor scope env=pure cl)(hnames:∀x∈scope.names,x.2= .local->scope.names.lookup x.1=some .local):
  SE C n L k (M8 x b fv y) (eval (.ListComp e [⟨target,.Call (.Name rn p) args [] p2,[],0⟩] scope pos) env):=by
 intro A g Ro Rq σ l s m v σ' T e' Q E h
 refine Ir e' λus σ1 e2 e3=>?_
 refine WA e3 λits e4 e5=>?_
 refine Ir e5 λws σ2 e6 e7=>?_
 rw[eval_ListComp]
 have ht':Zg target=true:=by cases target<;>first |rfl |cases ht
 refine wpAny_comprehension_free (use:=none) rfl (JW rfl) hclos hkind hnames ?_
 show wpAny _ A (eval (.Call (.Name rn p) args [] p2) env) _ E s
 refine Call_ (JC hE T.fr O.inK O.top e1 hv hn ?_ hl hd)
 induction args with
 |nil=>exact absurd rfl hne
 |cons a r=>
  refine Zd rfl hs (hy A g _ _ _ _ _ _ _ _ T e2 _ _ λh1 t1 Ru Rv m1 v1 G1 T1 R1=>?_)
  refine Ul (s:={s with heap:=h1,toks:=t1}) H T1 R1 e4 λh2 t2 ra z zl f u1 u2 u3 hk2 hr hz hits hf hsm=>?_
  obtain ⟨G2,T2⟩:=T1.kept hk2
  refine Mf (Jj T2) λhf1 hf2 hf3 hf4=>?_
  have hq:PE C L Ru Rv h2 σ' l v Q {s with heap:=h2,toks:=t2}:=h.step (G1.trans G2)
  refine wpAny_pyIter_range (s:={s with heap:=h2,toks:=t2}) hr hsm ?_
  refine YF (T2.noOwn (h':=h2.push {cls:= .type "range_iterator",data:= .fields #[rawInt z,rawInt (Builtin.Range.rangeSize z (z + f) 1),rawInt 1]}) hf1 λb o e=>Qj _ e) λG3 T3 hI=>?_
  have hsz:Builtin.Range.rangeSize z (z + f) 1=f:=by
   rw[rangeSize_one]
   split<;>lia
  subst hits
  refine DV (s:={s with heap:=h2.push {cls:= .type "range_iterator",data:= .fields #[rawInt z,rawInt (Builtin.Range.rangeSize z (z + f) 1),rawInt 1]},toks:=t2}) g ht' hcell hkind hb hx hfv T2 T3 G3 (XgL ht hz) hI ?_ hf1 hf2 e6 e7 hq
  rw[hsz]
  have w1:z + ((0:Nat):Int)=z:=by lia
  have w2:(f:Int) - ((0:Nat):Int)=f:=by lia
  show IsRangeIter _ _ (z + ((0:Nat):Int)) ((f:Int) - ((0:Nat):Int)) 1
  rw[w1,w2]
  exact QA _ rfl
section
theorem By{prog:Program}{w:World}{nn:Nat}{P:PySem.Fin->Rk->Prop}(ho:s.heap.get? a=some (Yp "list" vs nn))(hlen:vs.length<=1)
  (h:∀h' e1,Heap.ExtBut a s.heap h'->h'.get? a=some (Yp "list" vs e1)->P (.done (.ret .none)) {s with heap:=h'}):wpAny (model prog w) A (Builtin.«list.sort» ⟨[.ref a],[]⟩) P E s:=by
 have ha:a < s.heap.objs.size:=Qu ho
 have s1:=Heap.SameBut.update s.heap a (Obj.mapSeq λ_=>(#[]:Array Rm))
 obtain ⟨e1,ho1⟩:∃e1,(s.heap.update a (Obj.mapSeq λ_=>(#[]:Array Rm))).get? a=some (Yp "list" [] e1):=⟨_,get?_update_seq ho λ_=>#[]⟩
 rw[list_sort_plain]
 refine Qg (listItems_at ho rfl ?_)
 refine Qg (listUpdate_at ho rfl ?_ (by rw[Qx,sizeLine_eq];lia) (Rg _))
 refine Qg (seqEpoch_at ho1 rfl ?_)
 refine Qg (wpAny_newTuple ?_ (by show vs.length<=_;rw[sizeLine_eq];lia))
 refine Qg (wpAny_newList ?_ (Rg _))
 refine QB ?_
 dsimp only
 have hn2:vs.toArray.size < 2:=by rw[Qx];lia
 rw[if_pos hn2,if_pos hn2]
 have hp1:(((s.heap.update a (Obj.mapSeq λ_=>(#[]:Array Rm))).push {cls:= .type "tuple",data:= .seq vs.toArray}).push {cls:= .type "list",data:= .seq #[]}).get? a=some (Yp "list" [] e1):=Qj _ (Qj _ ho1)
 have ext:Heap.ExtBut a s.heap (((s.heap.update a (Obj.mapSeq λ_=>(#[]:Array Rm))).push {cls:= .type "tuple",data:= .seq vs.toArray}).push {cls:= .type "list",data:= .seq #[]}):=λb o hb e=>Qj _ (Qj _ (s1.extBut b o hb e))
 generalize ((s.heap.update a (Obj.mapSeq λ_=>(#[]:Array Rm))).push {cls:= .type "tuple",data:= .seq vs.toArray}).push {cls:= .type "list",data:= .seq #[]}=H at hp1 ext
 refine Qg (Qh ?_)
 show wpAny _ _ (pure ((),SortSt.mk' general' (vs.toArray.zip vs.toArray) #[] 7 none)>>=_) _ _ _
 refine Qg (Qh ?_)
 dsimp only
 have hmap:Array.map (λx=>x.snd) (arrOf (SortSt.mk' general' (vs.toArray.zip vs.toArray) #[] 7 none))=vs.toArray:=by
  show Array.map (λx=>x.snd) (vs.toArray.zip vs.toArray)=_
  apply Array.toList_inj.mp
  simp
  exact List.map_snd_zip (QS _)
 rw[hmap]
 have s2:=Heap.SameBut.update H a (Obj.mapSeq λ_=>vs.toArray)
 obtain ⟨e2,ho2⟩:∃e2,(H.update a (Obj.mapSeq λ_=>vs.toArray)).get? a=some (Yp "list" vs e2):=⟨_,get?_update_seq hp1 λ_=>vs.toArray⟩
 refine Qg (seqEpoch_at (s:={s with heap:=H}) hp1 rfl ?_)
 refine Qg (listUpdate_at (s:={s with heap:=H}) hp1 rfl ?_ (Rg _) (by rw[Qx,sizeLine_eq];lia))
 simp only [bne_self_eq_false,Bool.false_eq_true,if_false]
 exact Qh (h _ e2 (λb o hb e=>s2.extBut b o hb (ext b o hb e)) ho2)
theorem Gr{prog:Program}{w:World}{l:Rn}(hl:s.heap.IsList l vs.toArray)(hlen:vs.length<=1)
  (h:∀h' D e1,s.heap.get? D=none->(∀b o,s.heap.get? b=some o->h'.get? b=some o)->h'.get? D=some (Yp "list" vs e1)->Q (.ref D) {s with heap:=h'}):wpAny (model prog w) A (call (.builtin "sorted") [.ref l]) Q E s:=by
 refine Calls.call_function_entry kind_sorted plain_sorted entry_sorted (args_sorted1 _) ?_
 unfold Builtin.«sorted»
 refine Qg (m:=checkCount "sorted" 1 1 _) (Qh ?_)
 refine Qg (collect_list hl ?_ (by rw[sizeLine_eq];lia))
 refine Qg (wpAny_newList ?_ (by rw[sizeLine_eq];lia))
 have hsz:((s.heap.push (Yp "list" [] 0)).update s.heap.objs.size (Obj.mapSeq (·++vs.toArray))).objs.size=s.heap.objs.size + 1:=by
  rw[Heap.size_update,size_push']
 have keep:∀b o,s.heap.get? b=some o->(((s.heap.push (Yp "list" [] 0)).update s.heap.objs.size (Obj.mapSeq (·++vs.toArray))).push (Yp "list" vs 0)).get? b=some o:=λb o q=>by
  have hlt:b < s.heap.objs.size:=Qu q
  rw[Heap.get?_push_ne _ _ _ (by rw[hsz];exact Qz (Nat.lt_succ_of_lt hlt)),Heap.get?_update_ne _ _ _ _ (Qz hlt),Heap.get?_push_ne _ _ _ (Qz hlt)]
  exact q
 have hoL:(((s.heap.push (Yp "list" [] 0)).update s.heap.objs.size (Obj.mapSeq (·++vs.toArray))).push (Yp "list" vs 0)).get? (s.heap.objs.size + 1)=some (Yp "list" vs 0):=by
  rw[←hsz];exact QA _ rfl
 show wpAny _ _ _ _ _ {s with heap:=((s.heap.push (Yp "list" [] 0)).update s.heap.objs.size (Obj.mapSeq (·++vs.toArray))).push (Yp "list" vs 0)}
 rw[hsz]
 generalize ((s.heap.push (Yp "list" [] 0)).update s.heap.objs.size (Obj.mapSeq (·++vs.toArray))).push (Yp "list" vs 0)=H at keep hoL
 have hf:s.heap.get? (s.heap.objs.size + 1)=none:=Heap.get?_none_of_le (Nat.le_succ _)
 refine Qg (QB (wpAny_call_entry (s:={s with heap:=H}) slot_list_sort ⟨_,hoL,rfl⟩ entry_list_sort ?_ (args_list_sort _)))
 refine By (s:={s with heap:=H}) hoL hlen λh' e1 hx he=>⟨_,rfl,Qh ⟨_,rfl,h h' _ e1 hf (λb o e=>hx b o (by rintro rfl;rw[hf] at e;cases e) (keep b o e)) he⟩⟩
theorem At.adopt{D:Rn}(T:At C L Ro Rq σ l h m)(hk:∀b o,h.get? b=some o->h'.get? b=some o)(hD:h.get? D=none)(hDH:C.H0.get? D=none)
  (ho:OR C.ρ (Ro++[D]) (λb=>if b=D then some σ.n else (if b=D then none else Rq b)) h' σ.n D o):
  ∃Rt,XJ (·=L) Ro Rq h (Ro++[D]) Rt h'/\At C L (Ro++[D]) Rt ⟨σ.h.set o σ.n,σ.n + 1⟩ l h' m/\(Ro++[D])[σ.n]?=some D:=by
 refine YF (T.noOwn hD hk) λG T' oD=>?_
 have R2:=T'.rp.adopt (a:=D) (o':=o) oD hDH ho
 have hne:∀{b o},h.get? b=some o->b≠D:=by
  rintro b o e rfl
  rw[hD] at e;exact Xx e
 have G2:XJ (λ_=>False) Ro Rq h (Ro++[D]) (λb=>if b=D then some σ.n else (if b=D then none else Rq b)) h':=⟨Qr _ _,λb o e=>by
  show (if b=D then some σ.n else (if b=D then none else Rq b))=Rq b
  rw[if_neg (hne e),if_neg (hne e)],λb o e _ _=>hk b o e,λb o e=>⟨o,hk b o e⟩⟩
 exact ⟨_,G2.calm,T.called G2 R2,by rw[←T.rp.len];exact QU⟩
set_option tactic.hygienic true
theorem GL:Oy C k.F 7 (.builtin "sorted"):=by
 intro A n g L Ro Rq σ l s m us vs v σ' T R e Q E h
 replace e:XfS (Gq σ) σ us= .ok v σ':=e
 refine h1E e nR λu0 zz1 e1=>rKE e1 nR λi zz2 e2=>lKE e2 nR λxs q e3=>Ny e3 λhl e4=>?_
 subst zz1 zz2
 ·refine R.consE λ_ _ hv R=>?_
  refine R.nilE ?_
  refine hv.refE λa ha=>?_
  ·obtain ⟨a',f1,f2,f3⟩:=T.rp.obj i _ q
   rw[ha] at f1;obtain rfl:=QV f1
   ·have hlen:xs.length<=1:=by rw[←Y6];exact Qv hl
    replace h:=h.eq e4
    obtain ⟨ws,n1,g1,g2⟩:=f3
    refine Gr ⟨_,g1,rfl,n1,rfl⟩ (by rw[←g2.length];exact hlen) λh' D e1 hD hk he=>?_
    have hDH:C.H0.get? D=none:=by
     induction q:C.H0.get? D with
     |none=>rfl
     |some o=>rw[T.fr.keep D o q] at hD;exact snn hD
    obtain ⟨Rt,G,T',hn⟩:=T.adopt (o:= .list xs) hk hD hDH ⟨ws,e1,he,g2.mono (Qr _ _)⟩
    exact h h' s.toks _ Rt m _ G T' (.ref _ _ hn)
theorem XbC:∀{xs:List V}{vs:List Rm}{b:List Nat},YH C.ρ Ro xs vs->Ui xs=some b->IntsAre vs (b.map Int.ofNat)/\(b.all λn=>Nat.ble n 255)=true:=by
 intro xs
 induction xs with
 |nil=>intro vs b R e;refine R.nilE ?_;obtain rfl:=QV e;exact ⟨.nil,rfl⟩
 |cons v xs ih=>
  intro vs b R e
  refine Xol (show Xk5 v _=some b from e) λi z zz1 hz h1 e2=>?_;subst zz1
  refine Z8 e2 λr h2 e3=>?_
  obtain rfl:=QV e3
  refine R.consE λy vs hv R=>?_
  refine Iv (ih R h2) λp1 p2=>?_
  refine hv.intF λzv t hzv=>?_
  have:zv=((z:Nat):Int):=by rw[←hzv,XH hz]
  subst this
  exact ⟨.cons _ _ p1,by rw[List.all_cons,h1,p2];rfl⟩
set_option tactic.hygienic false
theorem DN(b:List Nat):byteArr (b.map Int.ofNat)=(b.map Nat.toUInt8).toArray:=by
 unfold byteArr
 rw[List.map_map]
 congr 1
end
theorem Wo:typeLookup (.type "bytes") "__bytes__"=pure (some (.builtin "bytes.__bytes__")):=by rw[typeLookup_type,QL];kernel_rfl
section
variable {prog:Program}{w:World}
theorem Xa2{b:Array UInt8}(h:Q (.bytes b t) s):codeAny (model prog w) A (.call (.builtin "bytes.__new__") ⟨[.type "bytes",.bytes b t],[]⟩) (wants Q E) s:=by
 refine codeAny_of_tree ?_
 show wpAny _ A.in1 (do checkBuiltinCall "bytes.__new__" ⟨[.type "bytes",.bytes b t],[]⟩;again (.builtin "bytes.__new__" ⟨[.type "bytes",.bytes b t],[]⟩)) _ _ s
 refine Qg (QF (F.bm_newCall _) (Qh ⟨plainId_quiet F.bm_plain _,codeAny_builtin F.bm_entry ?_⟩))
 rw[Around.under_plainId F.bm_plain _]
 have hT:s.TypeIs (.bytes b t) "bytes":=PySem.W.typeIs_bytes _ _ _
 unfold Builtin.«bytes.__new__»
 refine Qg (QF (a:=true) rfl ?_)
 refine bm_if_false rfl ?_
 refine Qg (QF F.bm_sub ?_)
 refine bm_if_false rfl ?_
 refine Qg (QF (F.bm_bind _) ?_)
 refine Qg (QF (a:=()) rfl ?_)
 refine Qg (QF (a:=()) rfl ?_)
 refine bm_if_false rfl ?_
 refine Qg (wpAny_specialOf hT Wo ?_)
 dsimp only
 refine Qg (wpAny_rule (Qg (wpAny_typeOf hT ?_)))
 refine bm_if_true (by decide) ?_
 show wpAny _ A.in1 (if (Value.type "bytes" == Value.type "bytes")=true then ret (.bytes b t) else _) _ _ s
 refine bm_if_true (by decide) ?_
 exact Qh h
theorem ND{b:Array UInt8}(h:Q (.bytes b t) s):wpAny (model prog w) A (call (.type "bytes") [.bytes b t]) Q E s:=by
 refine callType_codes (Q₁:=λobj s₁=>s₁.TypeIs obj "bytes"/\Q obj s₁) F.bm_called (F.bm_typeCall _) F.entry_object_init
  (Xa2 ⟨PySem.W.typeIs_bytes _ _ _,h⟩) λobj s₁ h₁=>?_
 exact ⟨h₁.1,F.args_object_init_2 obj _,object_init_meets F.bm_called.init.lookup F.bm_called.made (by decide) prog w A.in1 _ s₁ ⟨h₁.1,rfl,h₁.2⟩⟩
end
set_option tactic.hygienic true in
theorem Mt:Oy C k.F 4 (.type "bytes"):=by
 intro A n g L Ro Rq σ l s m us vs v σ' T R e Q E h
 replace e:DL σ us= .ok v σ':=e
 unfold DL at e
 split at e
 ·rename_i b
  refine Ny (show bc (XU b) (Xu.ok (.bytes b) σ) Xu.no=Xu.ok v σ' from e) λhl e2=>?_
  replace h:=h.eq e2
  refine R.consE λ_ _ hv R=>?_
  refine R.nilE ?_
  obtain ⟨t,rfl,hb⟩:=hv.bytesI
  exact ND (h s.heap s.toks Ro Rq m _ .refl T (.bytes _ _ hb))
 ·rename_i i
  refine R.consE λ_ _ hv R=>?_
  refine R.nilE ?_
  refine hv.refE λa ha=>?_
  induction q:σ.get i with
  |none=>rw[q] at e;exact Y3 e
  |some o=>
   rw[q] at e
   obtain ⟨a',f1,f2,f3⟩:=T.rp.obj i _ q
   rw[ha] at f1;obtain rfl:=QV f1
   refine Zx λ_ kk=>?_
   induction o<;>first |exact Y3 e |(refine kk ?_;clear kk)
   rename_i xs
   obtain ⟨ws,n1,g1,g2⟩:=f3
   obtain ⟨b,e1,e2⟩:=ZF (show oc (Ui xs) Xu.no (λb=>Mv b σ)=Xu.ok v σ' from e) nofun
   refine Ny (show bc (XU b) (Xu.ok (.bytes b) σ) Xu.no=Xu.ok v σ' from e2) λhl e3=>?_
   replace h:=h.eq e3
   obtain ⟨i1,i2⟩:=XbC g2 e1
   have hlen:=Yc hl
   have hwl:ws.length<=sizeLine:=by
    have:=i1.length
    rw[Qs] at this
    unfold sizeLine;lia
   refine call_bytes_ints ⟨_,g1,rfl,n1,rfl⟩ i1 (λz hz=>?_) hwl g.1 λh' t kk hk=>?_
   ·obtain ⟨y,hy,rfl⟩:=Qb hz
    have:=Qv (Qf i2 y hy)
    show 0<=((y:Nat):Int)/\((y:Nat):Int) < 256
    lia
   ·obtain ⟨G,T'⟩:=T.kept hk
    rw[DN]
    exact h h' kk Ro Rq m _ G T' (.bytes _ _ i2)
 ·exact Y3 e
theorem DB.keys{l:List (Int×V)}(I:DB ρ Ro l kvs):∀{vs:List Rm},vs.length=kvs.length->(∀(j:Nat)(u:Rm),vs[j]?=some u->∃k x,kvs[j]?=some (k,x)/\Value.isInt k u=true)->YH ρ Ro (UO l) vs:=by
 induction I with
 |nil=>intro vs hl _;induction vs with |nil=>exact .nil |cons _ _=>injection hl
 | @cons k v l y es hv I ih=>
  intro vs hl hk
  induction vs with
  |nil=>injection hl
  |cons u vs=>
   refine Y5 (hk 0 u rfl) λk' x' e1 e2=>?_
   cases e1
   obtain ⟨t,rfl⟩:=Value.isInt_shape e2
   exact .cons (.int _ _ _ (Xs _ _)) (ih (Nat.succ.inj hl) λj u hu=>hk (j + 1) u hu)
theorem At.adoptN{D:Rn}{ob:Obj}(T:At C L Ro Rq σ l h m)(F':Fr C.H0 L h' m)(N':News C.H0 L h' ((D,ob)::WN C.H0 L h))(hlt:∀q∈WN C.H0 L h,q.1 < D)
  (ho:h'.get? D=some ob->∀Rt,OR C.ρ (Ro++[D]) Rt h' σ.n D o):
  ∃Rt,XJ (·=L) Ro Rq h (Ro++[D]) Rt h'/\At C L (Ro++[D]) Rt ⟨σ.h.set o σ.n,σ.n + 1⟩ l h' m/\(Ro++[D])[σ.n]?=some D:=by
 refine YF (N' (D,ob) Ql) λhob hDL hDH=>?_
 have hD:h.get? D=none:=by
  induction q:h.get? D with
  |none=>rfl
  |some o=>exact absurd (hlt (D,o) (Y1.mpr ⟨q,hDL,hDH⟩)) (Nat.lt_irrefl _)
 refine YF (T.noOwn (h':=h) hD λ_ _ e=>e) λG0 T0 oD=>?_
 obtain ⟨G1,T1⟩:=T0.still F' (λp hp=>N' p (Qm _ hp)) T0.lr
 have R2:=T1.rp.adopt (a:=D) (o':=o) oD hDH (ho hob _)
 have hne:∀{b o},h.get? b=some o->b≠D:=by
  rintro b o e rfl
  rw[hD] at e;exact Xx e
 have hs:∀b o,h.get? b=some o->(if b=D then some σ.n else (if b=D then none else Rq b))=Rq b:=λb o e=>by rw[if_neg (hne e),if_neg (hne e)]
 have G2:XJ (·=L) Ro Rq h (Ro++[D]) (λb=>if b=D then some σ.n else (if b=D then none else Rq b)) h':=⟨Qr _ _,hs,λb o e hn hx=>G1.keep b o e (by show (if b=D then none else Rq b)=none;rw[if_neg (hne e)];exact hn) hx,G1.live⟩
 exact ⟨_,G2,⟨R2,F',(hs L _ (N4 T.fr).choose_spec).trans T.ownL,T.lr.mono (Qr _ _),T.cel.gone G2⟩,by rw[←T.rp.len];exact QU⟩
set_option tactic.hygienic true in
theorem XaZ:Oy C k.F 6 (.type "list"):=by
 intro A n g L Ro Rq σ l s m us vs v σ' T R e Q E h
 replace e:XfS (Xas σ) σ us= .ok v σ':=e
 refine h1E e nR λu0 zz1 e1=>rKE e1 nR λi zz2 e9=>?_
 subst zz1 zz2
 ·refine R.consE λ_ _ hv R=>?_
  refine R.nilE ?_
  refine hv.refE λa ha=>?_
  induction q:σ.get i with
  |none=>rw[q] at e9;exact Y3 e9
  |some o=>
   rw[q] at e9
   obtain ⟨a',f1,f2,f3⟩:=T.rp.obj i _ q
   rw[ha] at f1;obtain rfl:=QV f1
   obtain ⟨hL,hH⟩:=T.ownd f2
   induction o<;>try (exact Y3 e9;done)
   ·rename_i xs
    refine Ny (show bc (XU xs) (UU σ (.list xs)) Xu.no=Xu.ok v σ' from e9) λhl e1=>?_
    replace h:=h.eq e1
    obtain ⟨ws,n1,g1,g2⟩:=f3
    have hlen:=Yc hl
    have:=g2.length
    refine list_copyK T.fr (XO _ _ _) (items:=ws.toArray) ⟨_,g1,rfl,n1,rfl⟩ (λD c h' F' N' hlt=>?_) (by rw[Qx];unfold sizeLine;lia)
    obtain ⟨Rt,G,T',hn⟩:=T.adoptN (o:= .list xs) F' N' hlt λe Rt=>⟨ws,c,e,g2.mono (Qr _ _)⟩
    exact h h' s.toks _ Rt m _ G T' (.ref _ _ hn)
   ·rename_i xs
    refine Ny (show bc (XU (UO xs)) (UU σ (.list (UO xs))) Xu.no=Xu.ok v σ' from e9) λhl e1=>?_
    replace h:=h.eq e1
    refine Iv f3 λhsys zz1=>?_;refine UB zz1 λo kvs g1 g2 g3=>?_
    have hlen:=Yc hl
    have hkl:(UO xs).length=xs.length:=by
     have:∀l:List (Int×V),(UO l).length=l.length:=λl=>by
      induction l with
      |nil=>rfl
      |cons p r ih=>exact congrArg (· + 1) ih
     exact this xs
    have hk2:=(g3.look 0).2.2.1
    have hD:s.heap.DictOf (PySem.intKind C.prog C.w) a kvs:=Heap.dictOf_iff.mpr ⟨o,g1,g2 _ _⟩
    obtain ⟨ep,hat⟩:=hD.dictAt
    refine kdl_N (kdl_dict (knd:=PySem.intKind C.prog C.w) (kvs:=kvs) (ep:=ep) hsys) g.1 T.fr (XO _ _ _) hat (kdl_size (by lia)) λD c h' tk ws F' N' hlt hwl hwk=>?_
    have hR:YH C.ρ Ro (UO xs) ws:=g3.keys hwl λj u hu=>hwk j u hu
    obtain ⟨Rt,G,T',hn⟩:=T.adoptN (o:= .list (UO xs)) F' N' hlt λe Rt=>⟨ws,c,e,hR.mono (Qr _ _)⟩
    exact h h' tk _ Rt m _ G T' (.ref _ _ hn)
theorem XvO{x:Str}{kk pos}(h1:Ih[i]?=some x):SE C n L k (Ju i) (eval (.Constant (.str x) kk pos) env):=by
 intro A g Ro Rq σ l s m v σ' T e Q E h
 replace h:=h.eq e
 exact Constant_str (h _ _ _ _ _ _ .refl T (.str _ _ _ h1))
theorem Xlv(O:C.Ok):SE C n L k M9 (eval (.Dict [] [] pos) env):=by
 intro A g Ro Rq σ l s m v σ' T e Q E h
 replace h:=h.eq e
 refine newDict_K (prog:=C.prog) (w:=C.w) T.fr (XO _ _ _) O.top.nolimit λd h' o F' N' hlt hsys h1 h2 h3 h4=>?_
 refine YO (T.adoptN (o:= .idict []) F' N' hlt λe Rt=>⟨hsys,o,[],e,λp w=>XkR h3,.nil⟩) λRt G T' hn=>?_
 exact h h' s.toks _ Rt m _ G T' (.ref _ _ hn)
theorem KX{Ro Rq σ l s m i a xs z t v y}{c:Nat}(T:At C L Ro Rq σ l s.heap m)(ha:Ro[i]?=some a)(q:σ.get i=some (.list xs))(hz:z=(c:Int))(hc:c < xs.length)(hcl:c<=60000)(hv:VR C.ρ Ro v y){Q:Unit->Rk->Prop}{E}
  (h:∀h' t',XJ (·=L) Ro Rq s.heap Ro Rq h'->At C L Ro Rq (σ.put i (.list (xs.set c v))) l h' m->Q () {s with heap:=h',toks:=t'}):wpAny (model C.prog C.w) A (setItem (.ref a) (.int z t) y) Q E s:=by
 subst hz
 refine YO (T.rp.obj i _ q) λa' f1 f2 zz1=>?_;refine Y5 zz1 λvs n1 g1 g2=>?_
 rw[ha] at f1;obtain rfl:=QV f1
 obtain ⟨hL,h0⟩:=T.ownd f2
 have hlen:=g2.length
 refine ki_setAt (items:=vs.toArray) g1 (Int.natCast_nonneg c) (by lia) (by rw[Qx];lia) ?_
 have s1:=Heap.SameBut.update s.heap a (Obj.mapSeq (·.setIfInBounds ((c:Int)).toNat y))
 have he:=get?_update_seq g1 (·.setIfInBounds ((c:Int)).toNat y)
 have hsz:((vs.toArray.setIfInBounds ((c:Int)).toNat y).size == vs.toArray.size)=true:=by simp
 rw[if_pos hsz] at he
 have hset:(vs.toArray.setIfInBounds ((c:Int)).toNat y)=(vs.set c y).toArray:=by simp
 rw[hset] at he
 have F':Fr C.H0 L (s.heap.update a (Obj.mapSeq (·.setIfInBounds ((c:Int)).toNat y))) m:=T.fr.change s1 hL h0
 have N':News C.H0 L (s.heap.update a (Obj.mapSeq (·.setIfInBounds ((c:Int)).toNat y))) (Xb8 C.H0 L s.heap a (Yp "list" (vs.set c y) n1)):=λp hp=>by
  refine YB (Qb hp) λp0 hp0 e0=>?_
  refine YF (Y1.mp hp0) λq1 q2 q3=>?_
  by_cases hpa:p0.1=a
  ·rw[if_pos hpa] at e0
   subst e0
   exact ⟨he,hL,h0⟩
  ·rw[if_neg hpa] at e0
   subst e0
   exact ⟨s1.extBut _ _ hpa q1,q2,q3⟩
 obtain ⟨G,T'⟩:=At.put (x:= .list (xs.set c v)) T ha f2 g1 F' N' λe=>⟨vs.set c y,n1,e,by
  have:∀{xs:List V}{vs:List Rm}(c:Nat),YH C.ρ Ro xs vs->YH C.ρ Ro (xs.set c v) (vs.set c y):=λ{xs vs} c R=>by
   induction R generalizing c with
   |nil=>exact .nil
   |cons h R ih=>
    induction c with
    |zero=>exact .cons hv R
    |succ c=>exact .cons h (ih c)
  exact this c g2⟩
 exact h _ _ G T'
set_option tactic.hygienic true in
theorem Xlz{z:M}{o i:Expr}(hz:SE C n L k z (eval e env))(hx:SE C n L k x (eval o env))(hy:SE C n L k y (eval i env))(hs:swapsWith e (some (.Subscript o i p)) pos.line env=pure false):
  SS C n L k (N8 x y z) (exec (.Assign [.Subscript o i p] e pos) env):=by
 intro A g Ro Rq σ l s m out T e' hno Q E h
 refine Y5 (Xu.of_toS e' hno) λw σ1 e1 e2=>?_
 refine Y5 (Xu.of_toS e2 hno) λu σ2 e3 e4=>?_
 refine Y5 (Xu.of_toS e4 hno) λiv σ3 e5 e6=>?_
 refine wpAny_Assign_Subscript (hz A g _ _ _ _ _ _ _ _ T e1 _ _ λh1 t1 Ru Rv m1 v1 G1 T1 R1=>?_) hs
 refine hx A g _ _ _ _ {s with heap:=h1,toks:=t1} _ _ _ T1 e3 _ _ λh2 t2 Rz RA m2 v2 G2 T2 R2=>?_
 refine hy A g _ _ _ _ {s with heap:=h2,toks:=t2} _ _ _ T2 e5 _ _ λh3 t3 RB RC m3 v3 G3 T3 R3=>?_
 have R2':=R2.mono G3.pre
 have R1':=R1.mono (G2.pre.trans G3.pre)
 refine rKE e6 (λe=>hno e.symm) λj zz1 e6=>iKE e6 (λe=>hno e.symm) λkk zz2 e7=>?_
 subst zz1 zz2
 ·refine YB (ZF e7 (λe=>hno e.symm)) λc e7 e8=>?_
  refine R2'.refE λa ha=>?_
  refine R3.intF λzv t hzv=>?_
  have hzc:zv=c:=by rw[←hzv,XH e7]
  induction q:σ3.get j with
  |none=>rw[q] at e8;exact absurd e8.symm hno
  |some ob=>
   rw[q] at e8
   refine Zx λ_ kk=>?_
   induction ob<;>first |exact absurd e8.symm hno |(refine kk ?_;clear kk)
   ·rename_i xs
    obtain ⟨e0,e8'⟩:=YR (show bc (XU xs) (bc (nn c&&Nat.blt c.toNat (Uy xs)) (.next l (σ3.put j (.list (xs.set c.toNat w)))) .no) .no=out from e8) (λe=>hno e.symm)
    obtain ⟨e9,e10⟩:=YR e8' (λe=>hno e.symm)
    have hlen:=Yc e0
    replace h:=h.eq e10
    refine b2 e9 λc1 c2=>?_
    rw[Wj] at c1
    have c1':=Qt c1
    have c3:c.toNat < xs.length:=by
     have:=Qv c2
     rw[Y6] at this;exact this
    refine KX (s:={s with heap:=h3,toks:=t3}) (c:=c.toNat) T3 ha q (by rw[hzc];lia) c3 (by lia) R1' λh4 t4 G4 T4=>?_
    exact h h4 t4 RB RC m3 (G1.trans (G2.trans (G3.trans G4))) T4
   ·rename_i xs
    obtain ⟨e9,e10⟩:=YR (show bc (XU xs) (.next l (σ3.put j (.idict (Iq xs c w)))) .no=out from e8) (λe=>hno e.symm)
    replace h:=h.eq e10
    refine XdV (s:={s with heap:=h3,toks:=t3}) T3 ha q hzc e9 R1' λh4 t4 G4 T4=>?_
    exact h h4 t4 RB RC m3 (G1.trans (G2.trans (G3.trans G4))) T4
theorem XlB(O:C.Ok)(hc:XB C n k.call)(hk:k.cls=Xr.get){o:Expr}(hx:SE C n L k x (eval o env))(hy:SE C n L k y (eval e env))(hn:Zc[i]?=some nm):
  SS C n L k (XeX x i 0 y) (exec (.AugAssign (.Attribute o nm p) .Add e pos) env):=by
 intro A g Ro Rq σ l s m out T e' hno Q E h
 refine Y5 (Xu.of_toS e' hno) λov σ1 e1 e2=>?_
 refine Y5 (Xu.of_toS e2 hno) λold σ2 e3 e4=>?_
 refine Y5 (Xu.of_toS e4 hno) λw σ3 e5 e6=>?_
 replace e6:(XfT k.G 0 σ3 old w).to Zk.no (λw s=>setA k l i w ov s)=out:=e6
 refine Y5 (Xu.of_toS e6 hno) λr σ4 e7 e8=>?_
 refine WA (show oc (Zl old) Xu.no (λx=>oc (Zl w) Xu.no λy=>oc (ZD k.G 0 x y) Xu.no λz=>Xu.ok (.int z) σ3)=Xu.ok r σ4 from e7) λa e9 e10=>?_
 refine WA e10 λb e11 e12=>?_
 cases e12
 refine Zx λ_ kk=>?_
 induction old<;>first |exact Xx e9 |(refine kk ?_;clear kk)
 refine Zx λ_ kk=>?_
 induction w<;>first |exact Xx e11 |(refine kk ?_;clear kk)
 cases e9;cases e11
 refine wpAny_AugAssign_AttributeAny (hx A g _ _ _ _ _ _ _ _ T e1 _ _ λh1 t1 Ru Rv m1 v1 G1 T1 R1=>?_)
 refine Xaf (s:={s with heap:=h1,toks:=t1}) O hc hk g T1 R1 hn e3 λh2 t2 Rz RA m2 v2 G2 T2 R2=>?_
 refine hy A g _ _ _ _ {s with heap:=h2,toks:=t2} _ _ _ T2 e5 _ _ λh3 t3 RB RC m3 v3 G3 T3 R3=>?_
 have R2':=R2.mono G3.pre
 have R1':=R1.mono (G2.pre.trans G3.pre)
 refine R2'.intF λz1 tt1 hz1=>?_
 refine R3.intF λz2 tt2 hz2=>?_
 refine wpAny_iadd_int ?_
 have hR:VR C.ρ RB (.int (a.add b)) (.int (z1 + z2) t3):= .int _ _ _ (by rw[ZS,hz1,hz2])
 exact IJ (s:={s with heap:=h3,toks:=t3 + 1}) O hk T3 R1' hR hn e8 hno (h.step (G1.trans (G2.trans G3)))
theorem ZC.comp(hE:ZC env L)(hk:scope.kind= .function)(cl:List (Str×Rn))(L':Rn):ZC (compEnvC scope cl L' env) L':=⟨rfl,hE.glob,hE.bi,hk⟩
theorem Xpx(hE:ZC env L){x:Str}{c:Rn}{o:Obj}{z:Rm}(hx:Zc[i]?=some x)(hl:env.kindOf x=some .cell∨env.kindOf x=some .free)(hc:env.cells.lookup x=some c)(hm:(c,o)∈C.cells)(ho:o.data= .cell (some z))
  (Ry:C.cellv.lookup x=some z)(hd:(x == ("__debug__":Str))=false)(hcd:(x == ("__classdict__":Str))=false):SE C n L k (Xb i) (eval (.Name x pos) env):=by
 intro A g Ro Rq σ l s m v σ' T e Q E h
 have e':YS (Xh l i) σ= .ok v σ':=e
 induction q:Xh l i with
 |none=>rw[q] at e';exact Y3 e'
 |some u=>
  rw[q] at e'
  cases e'
  refine UB (T.lr i v q) λx' y e1 e2 e3=>?_
  rw[hx] at e1
  obtain rfl:=QV e1
  unfold IP at e2
  rw[Ry] at e2
  replace e2:z=y:=e2
  subst e2
  have hv:s.heap.IsCell c (some z):=⟨o,(T.cel _ hm).2.1,ho⟩
  rcases hl with hl |hl
  ·exact wpAny_Name (wpAny_loadName_cell hE.kind hl hc hv (h _ _ _ _ _ _ .refl T e3)) hd
  ·exact wpAny_Name (wpAny_loadName_free hE.kind hl hc hv (h _ _ _ _ _ _ .refl T e3) hcd) hd
theorem X5.le{m:Nat}(g:X5 A n)(h:m<=n):X5 A m:=⟨g.1,by have:=g.2.1;lia,by have:=g.2.2.1;lia,g.2.2.2⟩
theorem X5.under(g:X5 A (n + 1))(a:Rn)(rest:List Rm):X5 (A.under (.builtin "type.__call__" ⟨.ref a::rest,[]⟩)) n:=by
 have hw:(Code.builtin "type.__call__" ⟨.ref a::rest,[]⟩).weight=1:=rfl
 have hu:(Code.builtin "type.__call__" ⟨.ref a::rest,[]⟩).cUnits<=4:=by
  have h:(Code.builtin "type.__call__" ⟨.ref a::rest,[]⟩).cUnits=(Code.builtin "type.__call__" ⟨[.ref 0],[]⟩).cUnits:=rfl
  rw[h];decide
 have hg:(Code.builtin "type.__call__" ⟨.ref a::rest,[]⟩).guards=[]:=rfl
 refine ⟨g.1,?_,?_,?_⟩
 ·show A.depth + (Code.builtin "type.__call__" ⟨.ref a::rest,[]⟩).weight + _<=_
  rw[hw];have:=g.2.1;lia
 ·show A.units + (Code.builtin "type.__call__" ⟨.ref a::rest,[]⟩).cUnits + _<=_
  have:=g.2.2.1;lia
 ·show pushGuards (Code.builtin "type.__call__" ⟨.ref a::rest,[]⟩).guards A.guards=_
  rw[hg];exact g.2.2.2
theorem XB.le{c:Je}{m:Nat}(h:XB C m c)(hm:m<=n):XB C n c:=λA g=>h A (g.le hm)
theorem My(O:C.Ok){r:Je}(hr:XB C n r)(g:X5 A (n + 1)){c:Nat}{cl:Ig}(hcl:Xr.get c=some cl){Ro Rq σ s args vs v σ'}(R:Rp C Ro Rq σ s.heap)(Rs:YH C.ρ Ro args vs)(e:Uc r c args σ (some cl)= .ok v σ')(Q:Result->Rk->Prop)
  (h:N0 C Ro Rq s σ' v Q):
  codeAny (model C.prog C.w) A (.call (.ref c) ⟨vs,[]⟩) Q s:=by
 have Kc:=O.cls c cl hcl
 refine Js (show (r (.fn cl.init) (.ref (Nat.add σ.n 1)::args) ⟨(σ.h.set (.flds c []) σ.n).set (.inst c σ.n) (Nat.add σ.n 1),Nat.add σ.n 2⟩).to .no (Xea (Nat.add σ.n 1))= .ok v σ' from e) λu σ1 e1 e2=>?_
 refine Ny (show bc (Z1 u) (.ok (.ref (Nat.add σ.n 1)) σ1) .no=Xu.ok v σ' from e2) λe3 e4=>?_
 replace h:=h.eq e4
 obtain ⟨hh,gs,d,t,os⟩:=s
 have X0:C.K.In hh:=O.inK.keeps R.keep
 have hbig:C.H0.objs.size<=hh.objs.size:=R.big
 have f0:∀a,hh.objs.size<=a->C.H0.get? a=none:=λa ha=>by
  induction q:C.H0.get? a with
  |none=>rfl
  |some o=>exact absurd (Qu q) (Nat.not_lt.mpr (QH hbig ha))
 refine make_core (makes_of X0 Kc.makes) (looks_findIn X0 Kc.init) (λself=>bind_fn X0 self Kc.initF) (.inl rfl) ?_
 have hs1:(hh.push emptyDict).objs.size=hh.objs.size + 1:=Heap.size_push ..
 have hs2:((hh.push emptyDict).push (instObj c hh.objs.size)).objs.size=hh.objs.size + 1 + 1:=by rw[←hs1];exact Heap.size_push ..
 have k1:∀b o,hh.get? b=some o->(hh.push emptyDict).get? b=some o:=λb o e=>Qj _ e
 have k2:∀b o,(hh.push emptyDict).get? b=some o->((hh.push emptyDict).push (instObj c hh.objs.size)).get? b=some o:=λb o e=>Qj _ e
 have R1:Rp C (Ro++[hh.objs.size]) (λb=>if b=hh.objs.size then some σ.n else Rq b) ⟨σ.h.set (.flds c []) σ.n,σ.n + 1⟩ (hh.push emptyDict):=
  R.new (Ye hh) (f0 _ (QS _)) (λb o _ e=>k1 b o e) (λb o e=>k1 b o (R.keep b o e)) (by rw[hs1];exact Nat.le_succ_of_le hbig)
   ⟨[],0,QA _ rfl,.nil,QP,cl,hcl,λp hp=>by cases hp⟩
 have R2:Rp C ((Ro++[hh.objs.size])++[hh.objs.size + 1]) (λb=>if b=hh.objs.size + 1 then some (σ.n + 1) else (if b=hh.objs.size then some σ.n else Rq b)) ⟨(σ.h.set (.flds c []) σ.n).set (.inst c σ.n) (σ.n + 1),σ.n + 1 + 1⟩ ((hh.push emptyDict).push (instObj c hh.objs.size)):=by
  have:=R1.new (a:=hh.objs.size + 1) (o':= .inst c σ.n) (h':=(hh.push emptyDict).push (instObj c hh.objs.size)) (by rw[←hs1];exact Ye _) (f0 _ (Nat.le_succ _)) (λb o _ e=>k2 b o e) (λb o e=>k2 b o (R1.keep b o e)) (by rw[hs2];exact QH hbig (Nat.le_add_right _ 2))
   ⟨hh.objs.size,by
    have:(Ro++[hh.objs.size])[σ.n]?=some hh.objs.size:=by rw[←R.len];exact QU
    exact Yb (Qr _ _) this,by rw[←hs1];exact QA _ rfl⟩
  exact this
 have hx:((Ro++[hh.objs.size])++[hh.objs.size + 1])[σ.n + 1]?=some (hh.objs.size + 1):=by
  have:(Ro++[hh.objs.size]).length=σ.n + 1:=by rw[Qw,R.len];rfl
  rw[←this];exact QU
 have p1:Ro <+:(Ro++[hh.objs.size])++[hh.objs.size + 1]:=(Qr _ _).trans (Qr _ _)
 have G1:XJ (λ_=>False) Ro Rq hh ((Ro++[hh.objs.size])++[hh.objs.size + 1]) (λb=>if b=hh.objs.size + 1 then some (σ.n + 1) else (if b=hh.objs.size then some σ.n else Rq b)) ((hh.push emptyDict).push (instObj c hh.objs.size)):=⟨p1,λb o e=>by
  have l1:b < hh.objs.size:=Qu e
  have n1:¬b=hh.objs.size + 1:=by intro q;rw[q] at l1;exact absurd l1 (by simp)
  have n2:¬b=hh.objs.size:=by intro q;rw[q] at l1;exact absurd l1 (by simp)
  show (if b=hh.objs.size + 1 then some (σ.n + 1) else (if b=hh.objs.size then some σ.n else Rq b))=Rq b
  rw[if_neg n1,if_neg n2],λb o e _ _=>k2 b o (k1 b o e),λb o e=>⟨o,k2 b o (k1 b o e)⟩⟩
 refine hr _ (g.under c vs) _ _ _ _ _ _ _ ⟨_,gs,d,t,os⟩ _ _ e1 R2 (.fn cl.init) (.cons (.ref _ _ hx) (Rs.mono p1)) _ λh' kk Rr Rt val G' R' V'=>?_
 have hv:val= .none:=by
  have:=Jc V'
  rw[e3] at this
  exact eq_of_beq this.symm
 exact ⟨hv,h h' kk Rr Rt _ (G1.trans G') R' (.ref _ _ (Yb G'.pre hx))⟩
def XhR(C:Cx)(fn:Nat->Option X7):Prop:=∀a fc,fn a=some fc->∀n cal,XB C n cal->∃fd body,DA C n a fd fc body cal
def Mk(C:Cx)(m:Nat)(hook:V->List V->St->Option Xu):Prop:=XB C m λf args s=>(hook f args s).getD .no
set_option tactic.hygienic true
theorem Um(Rx:C.cells=[])(O:C.Ok){m:Nat}(hX1:X.top.cls=Xr.get)(hX2:X.top.wheelC=842)(HF:Xm C.ρ X.F)(HG:XS C.ρ X.G)(HT:XhR C X.top.fn)(HH:Mk C m X.hook):∀j,XB C (j + m) (run X j):=by
 intro ux
 induction ux with
 |zero=>
  exact λA g f args σ v σ' Ro Rq s fv vs e=>by exact Y3 e
 |succ j ih=>
  have ih:=ih
  intro A g f args σ v σ' Ro Rq s fv vs e R Rf Rs Q h
  replace e:GR X (run X j) f args σ= .ok v σ':=e
  induction q:X.hook f args σ with
  |some r=>
   have e':r= .ok v σ':=by
    have e: @Option.rec Xu (λ_=>Xu) _ (λx=>x) (X.hook f args σ)= .ok v σ':=e
    rw[q] at e
    exact e
   refine HH A (g.le (by lia)) f args σ v σ' Ro Rq s fv vs ?_ R Rf Rs Q h
   show (X.hook f args σ).getD .no=_
   rw[q];exact e'
  |none=>
   have e':Xe3 X (run X j) f args σ= .ok v σ':=by
    have e: @Option.rec Xu (λ_=>Xu) (Xe3 X (run X j) f args σ) (λx=>x) (X.hook f args σ)= .ok v σ':=e
    rw[q] at e
    exact e
   have g':X5 A (j + m + 1):=by
    have:j + 1 + m=j + m + 1:=by lia
    rw[this] at g;exact g
   refine Zx λ_ kk=>?_
   induction f<;>first |exact Y3 e' |(refine kk ?_;clear kk)
   ·rename_i a
    refine Rf.fnE ?_
    replace e':Zw X (run X j) args σ (X.top.fn a)= .ok v σ':=e'
    induction q2:X.top.fn a with
    |none=>rw[q2] at e';exact Y3 e'
    |some fc=>
     rw[q2] at e'
     refine x21 (HT a fc q2 _ _ ih) λfd body Kf=>?_
     exact O1 Rx O Kf hX1 hX2 HF HG g' R Rs e' Q h
   ·rename_i c
    refine Rf.clsE ?_
    replace e':Uc (run X j) c args σ (X.top.cls c)= .ok v σ':=e'
    rw[hX1] at e'
    induction q2:Xr.get c with
    |none=>rw[q2] at e';exact Y3 e'
    |some cl=>
     rw[q2] at e'
     exact My O ih g' q2 R Rs e' Q h
theorem MH:∀{a b:List Nat},eqB a b=true->a=b
 | [],[],_=>rfl
 |a::x,b::y,h=>by
  refine b2 (show (Nat.beq a b&&eqB x y)=true from h) λh1 h2=>?_
  rw[Qi h1,MH h2]
 | [],_::_,h=>by exact ff h
 |_::_,[],h=>by exact ff h
theorem Xc9:∀(a:List Nat),eqB a a=true
 | []=>rfl
 |a::x=>by
  show (Nat.beq a a&&eqB x x)=true
  rw[QI,Xc9 x];rfl
def IL(a b:Str):Bool:=eqB a.cps.toList b.cps.toList
theorem U3{a b:Str}(h:IL a b=true):a=b:=by
 have:=MH h
 induction a;induction b
 rename_i x y
 induction x;induction y
 subst this
 rfl
theorem ZB(a:Str):IL a a=true:=Xc9 _
theorem Xmp{a b:Str}(h:IL a b=false):a≠b:=by
 rintro rfl
 rw[ZB] at h
 exact tf h
def Xhx:List Str->Nat->Str->Option Nat
 | [],_,_=>none
 |a::r,i,x=>bc (IL a x) (some i) (Xhx r (i + 1) x)
theorem XaE:∀{l:List Str}{i j:Nat}{x:Str},Xhx l i x=some j->∃d,j=i + d/\l[d]?=some x:=by
 intro ux
 induction ux with
 |nil=>
  intro _ _ _ h
  exact Xx h
 |cons a r ih=>
  intro i j x h
  refine GK h (λq h=>?_) λ_ h=>?_
  ·obtain rfl:=QV h
   exact ⟨0,rfl,by rw[←U3 q];rfl⟩
  ·refine YB (ih h) λd e1 e2=>?_
   exact ⟨d + 1,by rw[e1,Nat.add_assoc,Nat.add_comm 1 d],e2⟩
set_option tactic.hygienic false
def Nf(x:Str):Option Nat:=Xhx Zc 0 x
def smI(x:Str):Option Nat:=Xhx Ih 0 x
theorem ZJ{x:Str}(h:Nf x=some i):Zc[i]?=some x:=by
 refine YB (XaE h) λd e1 e2=>?_
 rw[e1,QM];exact e2
theorem Xe1{x:Str}(h:smI x=some i):Ih[i]?=some x:=by
 refine YB (XaE h) λd e1 e2=>?_
 rw[e1,QM];exact e2
def XC:List (Str×α)->Str->Option α
 | [],_=>none
 |p::r,x=>bc (IL p.1 x) (some p.2) (XC r x)
theorem WV{a b:Str}:(a == b)=IL b a:=by
 induction q:IL b a with
 |true=>rw[U3 q];exact QR _
 |false=>
  induction q2:(a == b) with
  |false=>rfl
  |true=>rw[eq_of_beq q2,ZB] at q;exact tf q
theorem Jm:∀(l:List (Str×α))(x:Str),XC l x=l.lookup x:=by
 intro ux
 induction ux with
 |nil=>
  intro _
  exact rfl
 |cons ua r ih=>
  obtain ⟨a,v⟩:=ua
  intro x
  rw[Rd,WV]
  unfold XC
  induction IL a x with
  |true=>rfl
  |false=>exact ih x
def GA:List Str->Str->Bool
 | [],_=>false
 |a::r,x=>bc (IL a x) true (GA r x)
set_option tactic.hygienic true in
theorem XdR:∀{l:List Str}{x:Str},GA l x=true->x∈l:=by
 intro ux
 induction ux with
 |cons a r ih=>
  intro x h
  replace h:bc (IL a x) true (GA r x)=true:=h
  induction q:IL a x with
  |true=>rw[U3 q];exact Ql
  |false=>rw[q] at h;exact Qm _ (ih h)
 |nil=>
  intro v0 v1
  contradiction
theorem Dh{x:Str}(h:Zc[i]?=some x):(x == ("__debug__":Str))=false:=by
 have hm:x∈Zc:=QN h
 have:(Zc.all λx=> !(IL x ("__debug__":Str)))=true:=by decide +kernel
 have:=Qf this x hm
 rw[WV]
 induction q:IL ("__debug__":Str) x with
 |false=>rfl
 |true=>rw[U3 q,ZB] at this;exact ff this
theorem OO{x:Str}(h:Zc[i]?=some x):(x == ("__classdict__":Str))=false:=by
 have hm:x∈Zc:=QN h
 have:(Zc.all λx=> !(IL x ("__classdict__":Str)))=true:=by decide +kernel
 have:=Qf this x hm
 rw[WV]
 induction q:IL ("__classdict__":Str) x with
 |false=>rfl
 |true=>rw[U3 q,ZB] at this;exact ff this
structure Tb where
 gt:List (Str×V×Rm)
 bt:List (Str×Nat×Rm)
def isF:V->Bool
 | .fn _=>true
 | .cls _=>true
 |_=>false
def XgJ(x:Str):Bool:=IL x ("range":Str)
structure Ua(C:Cx)(tb:Tb):Prop where
 gl:∀x u y,XC tb.gt x=some (u,y)->nsIn C.K mainGlobals x=some (some y)/\(∀Ro,VR C.ρ Ro u y)/\(x == ("__debug__":Str))=false
 fn:∀x u y,XC tb.gt x=some (u,y)->isF u=true->(∀Ro z,VR C.ρ Ro u z->z=y)/\keepIn C.K y=true
 bi:∀x i v,XC tb.bt x=some (i,v)->nsIn C.K mainGlobals x=some none/\bootBuiltins x=some v/\x≠"__name__"/\XgI v=true/\(x == ("__debug__":Str))=false/\∀k:K,Xm C.ρ k.F->Oy C k.F i v
 rng:nsIn C.K mainGlobals ("range":Str)=some none
structure Yu(C:Cx)(sc:Scope)(cn cv:List Str)(L:Rn)(env:Env):Prop where
 l:ZC env L
 sc:env.scope=sc
 cel:∀x∈cn,∃c o z,env.cells.lookup x=some c/\(c,o)∈C.cells/\o.data= .cell (some z)/\C.cellv.lookup x=some z
 cv:∀x,GA cv x=false->C.cellv.lookup x=none
theorem Yu.kind{cv:List Str}(X:Yu C sc cn cv L env){x:Str}{q}(h:XC sc.names x=some q):env.kindOf x=some q:=by
 show env.scope.names.lookup x=_
 rw[X.sc,←Jm];exact h
noncomputable def o2(a:Option α)(b:Option β)(f:α->β->γ):Option γ:=match a with
 |some x=>(match b with
  |some y=>some (f x y)
  |none=>none)
 |none=>none
theorem XjH{a:Option α}{b:Option β}{f:α->β->γ}{z:γ}(h:o2 a b f=some z):∃x y,a=some x/\b=some y/\f x y=z:=by
 induction a with
 |none=>exact Xx h
 |some x=>induction b with
  |none=>exact Xx h
  |some y=>exact ⟨x,y,rfl,rfl,QV h⟩
def o3(a:Option α)(b:Option β)(c:Option γ)(f:α->β->γ->δ):Option δ:=match a with
 |some x=>o2 b c (f x)
 |none=>none
theorem Xpf{a:Option α}{b:Option β}{c:Option γ}{f:α->β->γ->δ}{z:δ}(h:o3 a b c f=some z):∃x y w,a=some x/\b=some y/\c=some w/\f x y w=z:=by
 induction a with
 |none=>exact Xx h
 |some x=>
  refine UB (XjH h) λy w e1 e2 e3=>?_
  exact ⟨x,y,w,rfl,e1,e2,e3⟩
@[elab_as_elim] theorem Ox{a:Option α}{b:Option β}{f:α->β->γ}{z:γ}{m:γ->Prop}(h:o2 a b f=some z)(k:∀x y,a=some x->b=some y->m (f x y)):m z:=by
 obtain ⟨x,y,e1,e2,rfl⟩:=XjH h
 exact k x y e1 e2
@[elab_as_elim] theorem Bh{a:Option α}{b:Option β}{c:Option γ}{f:α->β->γ->δ}{z:δ}{m:δ->Prop}(h:o3 a b c f=some z)(k:∀x y w,a=some x->b=some y->c=some w->m (f x y w)):m z:=by
 obtain ⟨x,y,w,e1,e2,e3,rfl⟩:=Xpf h
 exact k x y w e1 e2 e3
def o1(a:Option α)(f:α->β):Option β:=match a with
 |some x=>some (f x)
 |none=>none
theorem XjG{a:Option α}{f:α->β}{z:β}(h:o1 a f=some z):∃x,a=some x/\f x=z:=by
 induction a with
 |none=>exact Xx h
 |some x=>exact ⟨x,rfl,QV h⟩
@[elab_as_elim] theorem Gj{a:Option α}{f:α->β}{z:β}{m:β->Prop}(h:o1 a f=some z)(k:∀x,a=some x->m (f x)):m z:=by
 obtain ⟨x,e,rfl⟩:=XjG h
 exact k x e
def J7(b:Bool)(x:Option α):Option α:=match b with
 |true=>x
 |false=>none
theorem Xk9{b:Bool}{x:Option α}{z:α}(h:J7 b x=some z):b=true/\x=some z:=by
 induction b with
 |false=>exact Xx h
 |true=>exact ⟨rfl,h⟩
theorem Zz{b:Bool}{x:Option α}{z:α}{g:Prop}(h:J7 b x=some z)(k:b=true->x=some z->g):g:=(Xk9 h).elim k
def UX(e:Expr)(k:Str->Pos->Option α):Option α:=XdD e k none
@[elab_as_elim] theorem N6{k:Str->Pos->Option α}{z:α}{m:Expr->Prop}(h:UX e k=some z)(f:∀x p,k x p=some z->m (.Name x p)):m e:=by
 cases e<;>first |exact f _ _ h |exact Xx h
def Oe(e:Expr)(k:Expr->Str->Pos->Option α):Option α:=XdC e k none
@[elab_as_elim] theorem XhU{k:Expr->Str->Pos->Option α}{z:α}{m:Expr->Prop}(h:Oe e k=some z)(f:∀x n p,k x n p=some z->m (.Attribute x n p)):m e:=by
 cases e<;>first |exact f _ _ _ h |exact Xx h
def Xav(e:Expr)(k:List Expr->Nat->Pos->Option α):Option α:=XkH e k none
@[elab_as_elim] theorem Xmx{k:List Expr->Nat->Pos->Option α}{z:α}{m:Expr->Prop}(h:Xav e k=some z)(f:∀x n p,k x n p=some z->m (.Tuple x n p)):m e:=by
 cases e<;>first |exact f _ _ _ h |exact Xx h
def on1(l:List α)(k:α->Option β):Option β:=match l with
 | [a]=>k a
 |_=>none
@[elab_as_elim] theorem Bj{l:List α}{k:α->Option β}{z:β}{m:List α->Prop}(h:on1 l k=some z)(f:∀a,k a=some z->m [a]):m l:=by
 induction l with
 |nil=>exact Xx h
 |cons a r=>induction r with
  |nil=>exact f _ h
  |cons _ _=>exact Xx h
def on2(l:List α)(k:α->α->Option β):Option β:=match l with
 |a::r=>on1 r (k a)
 |_=>none
@[elab_as_elim] theorem KG{l:List α}{k:α->α->Option β}{z:β}{m:List α->Prop}(h:on2 l k=some z)(f:∀a b,k a b=some z->m [a,b]):m l:=by
 induction l with
 |nil=>exact Xx h
 |cons a r=>exact Bj (show on1 r (k a)=some z from h) λb h=>f _ _ h
def oB(b:Bool)(x y:α):α:=match b with
 |true=>x
 |false=>y
theorem oBE{b:Bool}{x y z:α}{g:Prop}(h:oB b x y=z)(k1:b=true->x=z->g)(k2:b=false->y=z->g):g:=by
 induction b with
 |true=>exact k1 rfl h
 |false=>exact k2 rfl h
def Xnr(cn cv:List Str)(x:Str):NameKind->Option Nat
 | .local=>J7 (!(GA cv x)) (Nf x)
 | .cell=>J7 (GA cn x) (Nf x)
 | .free=>J7 (GA cn x) (Nf x)
 |_=>none
def JN:Option NameKind->Bool
 |some .globalImplicit=>true
 |_=>false
def Jz:Option NameKind->Bool
 |some .local=>true
 |_=>false
theorem Wa{q:Option NameKind}(h:JN q=true):q=some .globalImplicit:=by
 induction q with
 |none=>exact ff h
 |some q=>cases q<;>first |rfl |cases h
theorem UN{q:Option NameKind}(h:Jz q=true):q=some .local:=by
 induction q with
 |none=>exact ff h
 |some q=>cases q<;>first |rfl |cases h
def Xnq(tb:Tb)(x:Str):Option M:=o1 (XC tb.gt x) λp=>Xv p.1
def XhZ(tb:Tb)(cn cv:List Str)(x:Str):Option NameKind->Option M
 |some .globalImplicit=>Xnq tb x
 |some q=>o1 (Xnr cn cv x q) Xb
 |none=>none
def Ub(cv:List Str)(sc:Scope)(x:Str):Option Nat:=J7 (Jz (XC sc.names x)) (J7 (!(GA cv x)) (Nf x))
def NC(cv:List Str)(sc:Scope):List Expr->Option (List Nat)
 | []=>some []
 |e::r=>UX e λx _=>o2 (Ub cv sc x) (NC cv sc r) λa b=>a::b
def BX(cv:List Str)(sc:Scope):Expr->Option ZH
 | .Name x _=>o1 (Ub cv sc x) Yh
 | .Tuple es _ _=>o1 (NC cv sc es) Zj
 |_=>none
def XcR:Const->Option M
 | .none=>some XD
 | .bool b=>some (XE b)
 | .int i=>some (Xf i)
 | .str x=>o1 (smI x) Ju
 | .bytes bs=>J7 ((bs.map UInt8.toNat).all λn=>Nat.ble n 255) (some (Jn (bs.map UInt8.toNat)))
 |_=>none
def cL(c:Expr->Option M):List Expr->Option ML
 | []=>some Xe
 |e::r=>J7 (Y9 e) (o2 (c e) (cL c r) Xa)
def cBO(op:PySem.BoolOp)(c:Expr->Option M):List Expr->Option M
 | []=>none
 | [e]=>c e
 |e::r=>o2 (c e) (cBO op c r) (match op with
  | .And=>Uz
  | .Or=>mOr)
def tBO(op:PySem.BoolOp)(c:Expr->Option MB):List Expr->Option MB
 | []=>none
 | [e]=>c e
 |e::r=>o2 (c e) (tBO op c r) (match op with
  | .And=>Op
  | .Or=>Wf)
def tCp(c:Expr->Option M)(e:Expr)(ops:List CmpOp)(fs:List Expr):Option MB:=on1 ops λop=>on1 fs λf=>J7 (!(behindInMarks op f)) (o3 (Xbe op) (c e) (c f) Xp)
def cCp(c:Expr->Option M)(e:Expr)(ops:List CmpOp)(fs:List Expr):Option M:=on1 ops λop=>on1 fs λf=>J7 (!(behindInMarks op f)) (o3 (Xbe op) (c e) (c f) YQ)
def Xll(e:Expr):Bool:=isX 23 e||(isX 20 e||(isX 16 e||isX 21 e))
def tUn(ct:Expr->Option MB)(e:Expr):UnaryOp->Option MB
 | .Not=>o1 (ct e) Ur
 |_=>none
def Ut(c:Expr->Option M):Nat->Expr->Option MB
 | 0,_=>none
 |f + 1,e=>gBo e (λop vs _=>tBO op (Ut c f) vs) (gUn e (λop a _=>tUn (Ut c f) a op) (XnZ e (λt a b _=>o3 (Ut c f t) (Ut c f a) (Ut c f b) Xmq) (XnU e (λa ops bs _=>tCp c a ops bs) (J7 (Xll e) (o1 (c e) tV)))))
def cUn(c:Expr->Option M)(e:Expr):UnaryOp->Option M
 | .Not=>o1 (c e) Ba
 | .USub=>o1 (c e) Xd9
 |_=>none
def XrP(c:Expr->Option M)(a:Expr):Option Expr->Option M
 |none=>o1 (c a) λx=>Zm x none none
 |some j=>o2 (c a) (c j) λx y=>Zm x none (some y)
def XrQ(c:Expr->Option M)(a i:Expr):Option Expr->Option M
 |none=>o2 (c a) (c i) λx y=>Zm x (some y) none
 |some j=>o3 (c a) (c i) (c j) λx y z=>Zm x (some y) (some z)
def cSl(c:Expr->Option M)(a:Expr):Option Expr->Option Expr->Option M
 |none=>XrP c a
 |some i=>XrQ c a i
def XcT(c:Expr->Option M)(a:Expr)(lo hi:Option Expr):Option Expr->Option M
 |none=>cSl c a lo hi
 |_=>none
def Xnt(c:Expr->Option M)(a:Expr):Expr->Option M
 | .Slice lo hi st _=>XcT c a lo hi st
 |i=>o2 (c a) (c i) Yv
def Wc:List α->Bool
 | []=>false
 |_=>true
def Uh:List α->Bool
 | []=>true
 |_=>false
def Xkt(tb:Tb)(sc:Scope)(c:Expr->Option M)(x:Str)(args:List Expr):Option M:=J7 (JN (XC sc.names x)) (match XC tb.gt x with
 |some p=>J7 (isF p.1) (o1 (cL c args) (Xk p.1))
 |none=>J7 (Wc args) (o2 (XC tb.bt x) (cL c args) λp y=>YI p.1 y))
def XhY(tb:Tb)(sc:Scope)(c:Expr->Option M)(args:List Expr)(pos:Pos)(e:Expr):Option M:=XdD e (λx _=>Xkt tb sc c x args) (Oe e λo nm apos=>J7 (UG o&&(Nat.blt args.length 30&&apos.endLine == pos.line)) (o3 (c o) (Nf nm) (cL c args) Xi))
def Jy:List (Str×NameKind)->List Str
 | []=>[]
 |(x,.free)::r=>x::Jy r
 |_::r=>Jy r
def XlI(scope sc:Scope):Scope:=relabel scope {scope:=sc,locals:=0,globals:=0,cells:=[]}
def XdB(cn:List Str):List Str->Option (List Nat)
 | []=>some []
 | [x]=>J7 (GA cn x) (o1 (Nf x) λi=>[i])
 |_=>none
def Gh(l:List (Str×NameKind)):Bool:=l.all λp=>match p.2 with
 | .cell=>false
 |_=>true
def Xoo(l:List (Str×NameKind)):Bool:=l.all λp=>match p.2 with
 | .local=>Jz (XC l p.1)
 |_=>true
def Xan:ScopeKind->Bool
 | .function=>true
 |_=>false
def XlF(sc:Scope)(f:Expr)(args:List Expr)(kws:List Keyword):Option (List Expr):=UX f λx _=>J7 (Uh kws&&(XgJ x&&(Wc args&&JN (XC sc.names x)))) (some args)
def J0(sc:Scope):Expr->Option (List Expr)
 | .Call f args kws _=>XlF sc f args kws
 |_=>none
def Xno(cv:List Str)(c ci:Expr->Option M)(e it:Expr)(b:Option ZH)(fv:Option (List Nat))(ok nameT:Bool)(r:Option (List Expr)):Option M:=J7 ok (match r with
 |some args=>J7 nameT (o2 (o2 (ci e) b λx y=>M8 x y) (o2 fv (cL c args) λf y=>(f,y)) λg p=>g p.1 p.2)
 |none=>o2 (o2 (ci e) b λx y=>Uu x y) (o2 fv (c it) λf y=>(f,y)) λg p=>g p.1 p.2)
def Xnp(cv cn:List Str)(c:Expr->Option M)(ci:Scope->List Str->Expr->Option M)(sc scope:Scope)(e:Expr)(gs:List Comprehension):Option M:=on1 gs λg=>J7 (Uh g.ifs&&decide (g.is_async=0)) (Xno cv c (ci (XlI scope sc) (Jy scope.names)) e g.iter (BX cv (XlI scope sc) g.target) (XdB cn (Jy scope.names))
   (Zg g.target&&(Gh scope.names&&(Xan scope.kind&&(KB g.iter&&Xoo scope.names)))) (JA g.target) (J0 sc g.iter))
def Yi(tb:Tb)(cv:List Str):Nat->Scope->List Str->Expr->Option M
 | 0,_,_,_=>none
 |f + 1,sc,cn,e=>match e with
  | .Constant k _ _=>XcR k
  | .Name x _=>XhZ tb cn cv x (XC sc.names x)
  | .Attribute o nm _=>J7 (UG o) (o2 (Yi tb cv f sc cn o) (Nf nm) Xj)
  | .BinOp a op b _=>o3 (opN op) (Yi tb cv f sc cn a) (Yi tb cv f sc cn b) Xo
  | .UnaryOp op a _=>cUn (Yi tb cv f sc cn) a op
  | .BoolOp op vs _=>cBO op (Yi tb cv f sc cn) vs
  | .IfExp t a b _=>o3 (Ut (Yi tb cv f sc cn) f t) (Yi tb cv f sc cn a) (Yi tb cv f sc cn b) Jt
  | .Compare a ops bs _=>cCp (Yi tb cv f sc cn) a ops bs
  | .Tuple es _ _=>o1 (cL (Yi tb cv f sc cn) es) Yg
  | .List es _=>o1 (cL (Yi tb cv f sc cn) es) Yx
  | .Dict ks vs _=>J7 (Uh ks&&Uh vs) (some M9)
  | .Subscript a i _=>Xnt (Yi tb cv f sc cn) a i
  | .Call fn args kws pos=>J7 (Uh kws) (XhY tb sc (Yi tb cv f sc cn) args pos fn)
  | .ListComp e gs scope _=>Xnp cv cn (Yi tb cv f sc cn) (Yi tb cv f) sc scope e gs
  |_=>none
section
variable {tb:Tb}{cv:List Str}
theorem WZ(hc:∀e x,c e=some x->SE C n L k x (eval e env)):∀{es:List Expr}{y:ML}(pos:Pos),cL c es=some y->SL C n L k y (spliced (backTo pos (starEach es env)))/\Ys es=true/\(es=[]->y=Xe):=by
 intro ux
 induction ux with
 |nil=>
  intro y pos h
  obtain rfl:=QV h;exact ⟨Xlx,rfl,λ_=>rfl⟩
 |cons e r ih=>
  intro y pos h
  refine Zz h λh1 h2=>?_
  refine Ox h2 λx y' e1 e2=>?_
  refine YF (ih pos e2) λi1 i2 _=>?_
  exact ⟨XaA (hc _ _ e1) i1 (XX h1),by show (Y9 e&&Ys r)=true;rw[h1,i2];rfl,nofun⟩
theorem Mx(hc:∀e x,c e=some x->SE C n L k x (eval e env)):∀{op:PySem.BoolOp}{es:List Expr}{x:M}{pos:Pos},cBO op c es=some x->SE C n L k x (eval (.BoolOp op es pos) env)
 |op,[],x,pos,h=>by exact Xx h
 |op,[e],x,pos,h=>Xpt (hc _ _ h)
 | .And,e::f::r,x,pos,h=>by
  refine Ox (show o2 (c e) (cBO .And c (f::r)) Uz=some x from h) λx1 y1 e1 e2=>?_
  exact XvG (hc _ _ e1) (Mx hc e2)
 | .Or,e::f::r,x,pos,h=>by
  refine Ox (show o2 (c e) (cBO .Or c (f::r)) mOr=some x from h) λx1 y1 e1 e2=>?_
  exact qOr (hc _ _ e1) (Mx hc e2)
theorem BA{c:Expr->Option MB}(hc:∀e x,c e=some x->SB C n L k x (isTrue e env (eval e env))):∀{op:PySem.BoolOp}{es:List Expr}{x:MB}{pos:Pos}{w:Sem Rm},tBO op c es=some x->SB C n L k x (isTrue (.BoolOp op es pos) env w)
 |op,[],x,pos,w,h=>by exact Xx h
 | .And,[e],x,pos,w,h=>XlE (hc _ _ h)
 | .Or,[e],x,pos,w,h=>XpG (hc _ _ h)
 | .And,e::f::r,x,pos,w,h=>by
  refine Ox (show o2 (c e) (tBO .And c (f::r)) Op=some x from h) λx1 y1 e1 e2=>?_
  exact XpD (hc _ _ e1) (BA hc e2)
 | .Or,e::f::r,x,pos,w,h=>by
  refine Ox (show o2 (c e) (tBO .Or c (f::r)) Wf=some x from h) λx1 y1 e1 e2=>?_
  exact XvS (hc _ _ e1) (BA hc e2)
theorem YY{b:Bool}(h:(!b)=true):b=false:=by cases b<;>first |rfl |cases h
theorem Xku(HF:Xm C.ρ k.F)(hc:∀e x,c e=some x->SE C n L k x (eval e env)){ops:List CmpOp}{bs:List Expr}(h:cCp c e ops bs=some x):SE C n L k x (eval (.Compare e ops bs pos) env):=by
 refine Bj h λop h=>?_
 refine Bj h λf h=>?_
 ·refine Zz h λh1 h2=>?_
  refine Bh h2 λo a b e1 e2 e3=>?_
  exact XvH HF (Xal HF) e1 (hc _ _ e2) (hc _ _ e3) (YY h1)
theorem Xmo(HF:Xm C.ρ k.F)(hc:∀e x,c e=some x->SE C n L k x (eval e env)){ops:List CmpOp}{bs:List Expr}{x:MB}(h:tCp c e ops bs=some x):SB C n L k x (isTrue (.Compare e ops bs pos) env w):=by
 refine Bj h λop h=>?_
 refine Bj h λf h=>?_
 ·refine Zz h λh1 h2=>?_
  refine Bh h2 λo a b e1 e2 e3=>?_
  exact XeM HF (Xal HF) e1 (hc _ _ e2) (hc _ _ e3) (YY h1)
set_option tactic.hygienic true
theorem GX(HF:Xm C.ρ k.F)(hc:∀e x,c e=some x->SE C n L k x (eval e env)):∀{f:Nat}{e:Expr}{x:MB},Ut c f e=some x->SB C n L k x (isTrue e env (eval e env)):=by
 intro f
 induction f with
 |zero=>exact λ{e x} h=>Xx h
 |succ f ih0=>
  intro e x h
  have ih:=λe x=>ih0 (e:=e) (x:=x)
  cases e
  case BoolOp op vs pos=>exact BA ih h
  case UnaryOp op a pos=>
   induction op<;>try (exact Xx h;done)
   refine Gj (show o1 (Ut c f a) Ur=some x from h) λy e1=>?_
   exact XpF (ih _ _ e1)
  case IfExp t a b pos=>
   refine Bh (show o3 (Ut c f t) (Ut c f a) (Ut c f b) Xmq=some x from h) λx1 x2 x3 e1 e2 e3=>?_
   exact XpE (ih _ _ e1) (ih _ _ e2) (ih _ _ e3)
  case Compare a ops bs pos=>exact Xmo HF hc h
  case Name a pos=>
   refine Gj (show o1 (c (.Name a pos)) tV=some x from h) λy e1=>?_
   exact qtV (hc _ _ e1) λQ E A s z=>isTrue_plain z
  case Attribute o a pos=>
   refine Gj (show o1 (c (.Attribute o a pos)) tV=some x from h) λy e1=>?_
   exact qtV (hc _ _ e1) λQ E A s z=>isTrue_plain z
  case Call o a r pos=>
   refine Gj (show o1 (c (.Call o a r pos)) tV=some x from h) λy e1=>?_
   exact qtV (hc _ _ e1) λQ E A s z=>isTrue_plain z
  case Subscript o a pos=>
   refine Gj (show o1 (c (.Subscript o a pos)) tV=some x from h) λy e1=>?_
   exact qtV (hc _ _ e1) λQ E A s z=>isTrue_plain z
  all_goals exact Xx h
theorem Xa4{v:Const}(h:XcR v=some x):SE C n L k x (eval (.Constant v kk pos) env):=by
 induction v
 case none=>obtain rfl:=QV h;exact XjP
 case bool b=>obtain rfl:=QV h;exact Xpw
 case int i=>obtain rfl:=QV h;exact XvJ
 case str y=>
  refine Gj (show o1 (smI y) Ju=some x from h) λi e1=>?_
  exact XvO (Xe1 e1)
 case bytes bs=>
  refine Zz (show J7 _ (some (Jn (bs.map UInt8.toNat)))=some x from h) λh1 h2=>?_
  obtain rfl:=QV h2
  exact Xlt h1 (by rw[List.map_map];exact map_eq_self λb _=>by simp)
 all_goals exact Xx h
theorem Xf2(hc:∀e x,c e=some x->SE C n L k x (eval e env)){a i:Expr}(h:Xnt c a i=some x):SE C n L k x (eval (.Subscript a i pos) env):=by
 have plain:Ng i=true->o2 (c a) (c i) Yv=some x->SE C n L k x (eval (.Subscript a i pos) env):=λhs h=>by
  refine Ox h λx1 y1 e1 e2=>?_
  exact XvP (hc _ _ e1) (hc _ _ e2) hs
 cases i
 case Slice lo hi st p=>
  replace h:XcT c a lo hi st=some x:=h
  induction st with
  |some _=>exact Xx h
  |none=>induction lo with
   |none=>induction hi with
    |none=>exact Gj (show o1 (c a) _=some x from h) λx1 e1=>XeF (hc _ _ e1)
    |some j=>exact Ox (show o2 (c a) (c j) _=some x from h) λx1 y1 e1 e2=>XeG (hc _ _ e1) (hc _ _ e2)
   |some i=>induction hi with
    |none=>exact Ox (show o2 (c a) (c i) _=some x from h) λx1 y1 e1 e2=>XeH (hc _ _ e1) (hc _ _ e2)
    |some j=>exact Bh (show o3 (c a) (c i) (c j) _=some x from h) λx1 y1 z1 e1 e2 e3=>XeI (hc _ _ e1) (hc _ _ e2) (hc _ _ e3)
 all_goals exact plain rfl h
theorem Wz{l:List α}(h:Wc l=true):l≠[]:=by
 rintro rfl;exact ff h
theorem Zr{l:List α}(h:Uh l=true):l=[]:=by
 cases l<;>first |rfl |cases h
theorem XcQ(O:C.Ok)(TB:Ua C tb)(HF:Xm C.ρ k.F)(hcal:XB C n k.call)(hk:k.cls=Xr.get)(hw:k.wheelC=842)(X:Yu C sc cn cv L env)(hc:∀e x,c e=some x->SE C n L k x (eval e env))
  {fn:Expr}(h:XhY tb sc c args pos fn=some x):SE C n L k x (eval (.Call fn args [] pos) env):=by
 cases fn
 case Name y p=>
  refine Zz (show J7 (JN (XC sc.names y)) _=some x from h) λhg h=>?_
  have hl:=X.kind (Wa hg)
  split at h
  ·rename_i pr hp
   obtain ⟨u,z⟩:=pr
   refine Zz h λhf h=>?_
   refine Gj h λys e1=>?_
   refine YF (WZ hc pos e1) λi1 i2 i3=>?_
   refine YF (TB.gl _ _ _ hp) λg1 g2 g3=>?_
   obtain ⟨g4,g5⟩:=TB.fn _ _ _ hp hf
   exact XjO O hcal (KN X.l O g1 g2 hl g3) g4 g5 i2 i1 i3
  ·refine Zz h λhne h=>?_
   refine Ox h λpr ys e0 e1=>?_
   obtain ⟨i,z⟩:=pr
   refine YF (WZ hc pos e1) λi1 i2 i3=>?_
   refine x06 (TB.bi _ _ _ e0) λg1 g2 g3 g4 g5 g6=>?_
   exact qBi O X.l g1 g2 g3 hl g5 g4 (g6 k HF) i2 (Wz hne) i1
 case Attribute o nm apos=>
  refine Zz (show J7 (UG o&&(Nat.blt args.length 30&&apos.endLine == pos.line)) _=some x from h) λh1 h=>?_
  refine b3 h1 λh1 h2 h3=>?_
  refine Bh h λa i ys e1 e2 e3=>?_
  refine YF (WZ hc pos e3) λi1 i2 i3=>?_
  exact Xpz O hcal hk hw (hc _ _ e1) (ZJ e2) h1 i2 (Nat.blt_eq.mp h2) h3 i1 i3
 all_goals exact Xx h
set_option tactic.hygienic false
theorem O5:∀{l:List (Str×NameKind)},Jy l=[]->∀x∈l,x.2≠ .free:=by
 intro ux
 induction ux with
 |cons ua r ih=>
  obtain ⟨y,q⟩:=ua
  intro h x hx
  have h':q≠ .free/\Jy r=[]:=by
   cases q<;>first |exact ⟨nofun,h⟩ |cases h
  rcases Qe hx with rfl |hm
  ·exact h'.1
  ·exact ih h'.2 x hm
 |nil=>
  intro v0 v1 v2
  contradiction
theorem ME{x:Str}{c:Rn}(hc:env.cells.lookup x=some c):∀{l:List (Str×NameKind)}{cs:List (Str×Rn)},Jy l=[x]->
  (forIn l cs λ(p:Str×NameKind) r=>(if p.2 == .free then (do let a ←cellOf env p.1;pure (ForInStep.yield ((p.1,a)::r))) else pure (ForInStep.yield r):Sem (ForInStep (List (Str×Rn)))))=(pure ((x,c)::cs):Sem (List (Str×Rn))):=by
 intro ux
 induction ux with
 |nil=>
  intro cs h
  injection h
 |cons ua r ih=>
  obtain ⟨y,q⟩:=ua
  intro cs h
  by_cases hq:q= .free
  ·subst hq
   obtain ⟨rfl,hr⟩:=List.cons.inj (show y::Jy r=[x] from h)
   have hco:cellOf env y=pure c:=by unfold cellOf;rw[hc]
   rw[List.forIn_cons]
   show (cellOf env y>>=_)>>=_=_
   rw[hco]
   exact forIn_yield_id ((y,c)::cs) (λz hz c=>by
    have:(z.2 == NameKind.free)=false:=by
     have:=O5 hr z hz
     cases e:z.2<;>first |rfl |exact absurd e this
    show (if (z.2 == NameKind.free)=true then _ else _)=_
    rw[this];rfl)
  ·have h':Jy r=[x]:=by
    induction q<;>first |exact h |exact absurd rfl hq
   have:(q == NameKind.free)=false:=by induction q<;>first |rfl |exact absurd rfl hq
   rw[List.forIn_cons]
   show (if (q == NameKind.free)=true then _ else _)>>=_=_
   rw[this]
   exact ih h'
theorem O6(X:Yu C sc cn cv L env)(h:XdB cn (Jy scope.names)=some fv):
  ∃cl,closureFor scope env=pure cl/\(∀i∈fv,∀y,Zc[i]?=some y->(C.cellv.lookup y).isSome=true)/\∀x∈Jy scope.names,∃c o z,cl.lookup x=some c/\(c,o)∈C.cells/\o.data= .cell (some z)/\C.cellv.lookup x=some z:=by
 induction q:Jy scope.names with
 |nil=>
  rw[q] at h
  obtain rfl:=QV h
  exact ⟨[],closureFor_none (O5 q),nofun,nofun⟩
 |cons x r=>
  rw[q] at h
  induction r with
  |cons _ _=>exact Xx h
  |nil=>
   refine Zz (show J7 (GA cn x) (o1 (Nf x) λi=>[i])=some fv from h) λh1 h=>?_
   refine Gj h λi e1=>?_
   refine x34 (X.cel x (XdR h1)) λc o z f1 f2 f3 f4=>?_
   refine ⟨[(x,c)],?_,?_,?_⟩
   ·have:=ME (env:=env) f1 (cs:=[]) q
    unfold closureFor
    show (forIn scope.names [] _>>=_)=_
    have e:(λ(p:Str×NameKind) (r:List (Str×Rn))=>(if p.2 == .free then (do let a ←cellOf env p.1;pure (ForInStep.yield ((p.1,a)::r))) else pure (ForInStep.yield r):Sem (ForInStep (List (Str×Rn)))))=λ(p:Str×NameKind) (r:List (Str×Rn))=>(match p with
      |(name,kind)=>if kind == .free then (do let a ←cellOf env name;pure (ForInStep.yield ((name,a)::r))) else pure (ForInStep.yield r):Sem (ForInStep (List (Str×Rn)))):=by
     funext p r;rfl
    rw[e] at this
    exact (congrArg (·>>=pure) this)
   ·intro j hj y hy
    cases hj with
    |tail _ h=>cases h
    |head=>
     have:=ZJ e1
     rw[hy] at this
     obtain rfl:=QV this
     rw[f4];rfl
   ·intro y hy
    cases hy with
    |tail _ h=>cases h
    |head=>exact ⟨c,o,z,by rw[Rd,QR],f2,f3,f4⟩
set_option tactic.hygienic true
@[elab_as_elim] theorem XeP{it:Expr}{m:Expr->Prop}(h:J0 sc it=some args)(f:∀p p2,args≠[]->XC sc.names ("range":Str)=some .globalImplicit->m (.Call (.Name ("range":Str) p) args [] p2)):m it:=by
 cases it<;>try (exact Xx h;done)
 rename_i g as kws p2
 refine N6 (show UX g _=some args from h) λx p h=>?_
 refine Zz h λh1 h2=>?_
 obtain rfl:=QV h2
 refine b4 h1 λk0 a b c=>?_
 rw[Zr k0,U3 a]
 rw[U3 a] at c
 exact f p p2 (Wz b) (Wa c)
theorem JT(X:Yu C sc cn cv L env){x:Str}(h:Ub cv sc x=some i):Zc[i]?=some x/\C.cellv.lookup x=none/\env.kindOf x=some .local:=by
 refine Zz h λh1 h=>?_
 refine Zz h λh2 h=>?_
 exact ⟨ZJ h,X.cv _ (YY h2),X.kind (UN h1)⟩
theorem O0(X:Yu C sc cn cv L env):∀{es:List Expr}{ns:List Nat},NC cv sc es=some ns->ZO C env es ns:=by
 intro ux
 induction ux with
 |nil=>
  intro ns h
  obtain rfl:=QV h;exact .nil
 |cons e r ih=>
  intro ns h
  refine N6 h λx p h=>?_
  refine Ox (show o2 (Ub cv sc x) (NC cv sc r) (λa b=>a::b)=some ns from h) λi js e1 e2=>?_
  refine YF (JT X e1) λf1 f2 f3=>?_
  exact .cons f1 f2 f3 (ih e2)
theorem WY(X:Yu C sc cn cv L env){t:Expr}{b:ZH}(h:BX cv sc t=some b):IO C n L env t b:=by
 cases t<;>try (exact Xx h;done)
 ·rename_i x p
  refine Gj (show o1 (Ub cv sc x) Yh=some b from h) λi e1=>?_
  refine YF (JT X e1) λf1 f2 f3=>?_
  exact bs1 X.l f1 f2 f3
 ·rename_i es kk p
  refine Gj (show o1 (NC cv sc es) Zj=some b from h) λns e1=>?_
  exact bsT X.l (O0 X e1)
theorem YM{q:ScopeKind}(h:Xan q=true):q= .function:=by
 cases q<;>first |rfl |cases h
theorem Yu.comp(X:Yu C sc cn cv L env)(hk:scope.kind= .function)(hcl:∀x∈Jy scope.names,∃c o z,cl.lookup x=some c/\(c,o)∈C.cells/\o.data= .cell (some z)/\C.cellv.lookup x=some z)(L':Rn):
  Yu C (XlI scope sc) (Jy scope.names) cv L' (compEnvC scope cl L' env) where
 l:=X.l.comp hk cl L'
 sc:=by rw[←X.sc];rfl
 cel:=hcl
 cv:=X.cv
theorem ZK{l:List (Str×NameKind)}(h:Gh l=true):∀y∈l,y.2≠ .cell:=λy hy e=>by
 have:=Qf h y hy
 rw[e] at this
 exact ff this
theorem Xat{l:List (Str×NameKind)}(h:Xoo l=true):∀x∈l,x.2= .local->l.lookup x.1=some .local:=λy hy e=>by
 have:=Qf h y hy
 rw[e] at this
 rw[←Jm]
 exact UN this
theorem Xf1(O:C.Ok)(TB:Ua C tb)(HF:Xm C.ρ k.F)(X:Yu C sc cn cv L env){ci:Scope->List Str->Expr->Option M}(hc:∀e x,c e=some x->SE C n L k x (eval e env))
  (hci:∀sc' cn' L' env',Yu C sc' cn' cv L' env'->∀e x,ci sc' cn' e=some x->SE C n L' k x (eval e env')){gs:List Comprehension}(h:Xnp cv cn c ci sc scope e gs=some x):SE C n L k x (eval (.ListComp e gs scope pos) env):=by
 refine Bj h λg h=>?_
 obtain ⟨target,iter,ifs,as⟩:=g
 refine Zz h λh0 h=>?_
 refine b2 h0 λh01 h02=>?_
 have e1:=Zr h01
 have e2:=Qt h02
 replace e1:ifs=[]:=e1
 replace e2:as=0:=e2
 subst e1 e2
 show SE C n L k x (eval (.ListComp e [⟨target,iter,[],0⟩] scope pos) env)
 ·refine Zz (show J7 _ _=some x from h) λh1 h=>?_
  refine b5 h1 λt1 t2 t3 t4 t5=>?_
  split at h
  ·rename_i args hr
   refine Zz h λt6 h=>?_
   refine Ox h λg p e1 e2=>?_
   refine Ox e1 λu b e3 e4=>?_
   refine Ox e2 λfv y e5 e6=>?_
   refine XeP (show J0 sc iter=some args from hr) λp1 p2 r2 r3=>?_
   refine YO (O6 X e5) λcl c1 c2 c3=>?_
   refine YF (WZ hc p2 e6) λi1 i2 i3=>?_
   have Y:=X.comp (YM t3) c3
   exact Xlu O HF X.l TB.rng rfl (by decide) (X.kind r3) (by decide) i2 r2 i1 t6 (ZK t2) (YM t3) (λL'=>WY (Y L') e4) (λL'=>hci _ _ _ _ (Y L') _ _ e3) c2 c1 (Xat t5)
  ·rename_i hr
   refine Ox h λg p e1 e2=>?_
   refine Ox e1 λu b e3 e4=>?_
   refine Ox e2 λfv y e5 e6=>?_
   refine YO (O6 X e5) λcl c1 c2 c3=>?_
   have Y:=X.comp (YM t3) c3
   exact Xpy (hc _ _ e6) t1 (ZK t2) (YM t3) (λL'=>WY (Y L') e4) (λL'=>hci _ _ _ _ (Y L') _ _ e3) c2 t4 c1 (Xat t5)
set_option tactic.hygienic false
theorem XcS(O:C.Ok)(TB:Ua C tb)(X:Yu C sc cn cv L env){y:Str}(h:XhZ tb cn cv y (XC sc.names y)=some x):SE C n L k x (eval (.Name y p) env):=by
 induction q:XC sc.names y with
 |none=>rw[q] at h;exact Xx h
 |some kd=>
  rw[q] at h
  have hl:=X.kind q
  have cell:(kd= .cell∨kd= .free)->o1 (J7 (GA cn y) (Nf y)) Xb=some x->SE C n L k x (eval (.Name y p) env):=λhq h=>by
   refine Gj h λi e1=>?_
   refine Zz e1 λh1 e1=>?_
   refine x34 (X.cel y (XdR h1)) λc o z f1 f2 f3 f4=>?_
   exact Xpx X.l (ZJ e1) (by rcases hq with rfl |rfl;exact .inl hl;exact .inr hl) f1 f2 f3 f4 (Dh (ZJ e1)) (OO (ZJ e1))
  induction kd
  ·refine Gj (show o1 (J7 (!(GA cv y)) (Nf y)) Xb=some x from h) λi e1=>?_
   refine Zz e1 λh1 e1=>?_
   exact Xlw X.l (ZJ e1) (X.cv _ (YY h1)) hl (Dh (ZJ e1))
  ·exact cell (.inl rfl) h
  ·exact cell (.inr rfl) h
  ·exact Xx h
  ·refine YB (XjG (show o1 (XC tb.gt y) (λp=>Xv p.1)=some x from h)) λzz36 e1 zz37=>?_;obtain ⟨u,z⟩:=zz36;subst zz37
   refine YF (TB.gl _ _ _ e1) λg1 g2 g3=>?_
   exact KN X.l O g1 g2 hl g3
end
set_option tactic.hygienic true
theorem YC{tb:Tb}{cv:List Str}(O:C.Ok)(TB:Ua C tb)(HF:Xm C.ρ k.F)(HG:XS C.ρ k.G)(hcal:XB C n k.call)(hk:k.cls=Xr.get)(hw:k.wheelC=842):
  ∀f sc cn L env,Yu C sc cn cv L env->∀e x,Yi tb cv f sc cn e=some x->SE C n L k x (eval e env):=by
 intro f
 induction f with
 |zero=>exact λsc cn L env X e x h=>Xx h
 |succ f ih=>
  intro sc cn L env X e x h
  have hc:=ih sc cn L env X
  cases e
  case Constant v kk pos=>exact Xa4 h
  case Name y pos=>exact XcS O TB X h
  case Attribute o nm pos=>
   refine Zz h λh1 h=>?_
   refine Ox h λa i e1 e2=>?_
   exact Xpu O hcal hk (hc _ _ e1) (ZJ e2) h1
  case BinOp a op b pos=>
   refine Bh h λo x1 x2 e0 e1 e2=>?_
   exact Xpv HG XcW e0 (hc _ _ e1) (hc _ _ e2)
  case UnaryOp op a pos=>
   induction op<;>try (exact Xx h;done)
   ·refine Gj (show o1 (Yi tb cv f sc cn a) Ba=some x from h) λy e1=>?_
    exact XvN (hc _ _ e1)
   ·refine Gj (show o1 (Yi tb cv f sc cn a) Xd9=some x from h) λy e1=>?_
    exact XvM (hc _ _ e1)
  case BoolOp op vs pos=>exact Mx hc h
  case IfExp t a b pos=>
   refine Bh h λx1 x2 x3 e1 e2 e3=>?_
   exact XvK (GX HF hc e1) (hc _ _ e2) (hc _ _ e3)
  case Compare a ops bs pos=>exact Xku HF hc h
  case Tuple es kk pos=>
   refine Gj h λy e1=>?_
   exact XvQ (WZ hc pos e1).1
  case List es pos=>
   refine Gj h λy e1=>?_
   exact XvL (WZ hc pos e1).1
  case Dict ks vs pos=>
   refine Zz h λh1 h=>?_
   obtain rfl:=QV h
   refine b2 h1 λh1 h2=>?_
   rw[Zr h1,Zr h2]
   exact Xlv O
  case Subscript a i pos=>exact Xf2 hc h
  case Call fn args kws pos=>
   refine Zz h λh1 h=>?_
   rw[Zr h1]
   exact XcQ O TB HF hcal hk hw X hc h
  case ListComp e gs scope pos=>exact Xf1 O TB HF X hc (λsc' cn' L' env' X'=>ih sc' cn' L' env' X') h
  all_goals exact Xx h
def XjA:Expr->Bool
 | .Tuple _ _ _=>false
 |_=>true
def MY:Expr->Bool
 | .Attribute _ _ _=>true
 |_=>false
theorem WG:swapsWithSole [.Tuple es kk p] e line env=pure false:=by
 cases e<;>rfl
theorem Xb1{o:Expr}:swapsWith e (some (.Attribute o nm p)) line env=pure false:=by
 cases e<;>rfl
theorem Xe2{o i:Expr}:swapsWith e (some (.Subscript o i p)) line env=pure false:=by
 cases e<;>rfl
theorem OQ(h:XjA e=true):swappedStores [.Tuple es kk p] e env=pure none:=by
 cases e<;>first |rfl |cases h
theorem DX{f:Expr->Option Str}(hf:∀o a p,f (.Attribute o a p)=none)(h:es.all MY=true):es.filterMap f=[]:=by
 rw[List.filterMap_eq_nil_iff]
 intro e he
 have h1:=Qf h e he
 cases e<;>try (exact ff h1;done)
 exact hf _ _ _
theorem BH{f:Expr->Option Str}{a b:Expr}(x y:Str)(h1:f a=some x)(h2:f b=some y):[a,b].filterMap f=[x,y]:=by
 simp [h1,h2]
theorem OP(h:es.all MY=true):swappedStores [.Tuple es kk p] e env=pure none:=by
 cases e<;>try rfl
 rename_i vs k2 p2
 unfold swappedStores
 show (if (!(es.length == 2||es.length == 3)||vs.length != es.length||env.blockKind != .function)=true then _ else _)=_
 by_cases h1:(!(es.length == 2||es.length == 3)||vs.length != es.length||env.blockKind != .function)=true
 ·rw[if_pos h1]
 ·rw[if_neg h1]
  show (if _ then _ else _)=_
  split
  ·rfl
  ·dsimp only
   rw[DX (λ_ _ _=>rfl) h]
   have:es≠[]:=by
    rintro rfl
    exact h1 rfl
   induction es with
   |nil=>exact absurd rfl this
   |cons a r=>rfl
set_option tactic.hygienic false
theorem XfC{f:Expr->Bool}{a b:Expr}(h1:f a=false)(h2:f b=false):[a,b].any f=false:=by
 show (f a||(f b||false))=false
 rw[h1,h2];rfl
theorem XaH{v:Expr}:Y9 v=true->(match v with | .Starred ..=>true |_=>false)=false:=by
 intro h
 cases v<;>first |rfl |cases h
def DQ(sc:Scope)(x1 x2:Str)(p1 p2:Pos)(v1 v2:Expr):Bool:=
 Y9 v1&&(Y9 v2&&(Jz (XC sc.names x1)&&(Jz (XC sc.names x2)&&(p2.line == p1.line&&(!(IL x1 x2)&&(!([v1,v2].all (foldedForSure 8))&& !([v1,v2].all (constantsAlone 8))))))))
theorem XcV{v1 v2:Expr}(h:DQ sc x1 x2 p1 p2 v1 v2=true):IL x1 x2=false:=b8 h λ_ _ _ _ _ h _ _=>YY h
theorem Ma(hs:env.scope=sc)(hk:env.scope.kind= .function){tp vp:Pos}{v1 v2:Expr}{k2:Nat}(h:DQ sc x1 x2 p1 p2 v1 v2=true):
  swappedStores [.Tuple [.Name x1 p1,.Name x2 p2] kk tp] (.Tuple [v1,v2] k2 vp) env=pure (some [x1,x2]):=by
 refine b8 h λh1 h2 h3 h4 h5 h6 h7 h8=>?_
 have l1:env.kindOf x1=some .local:=by show env.scope.names.lookup x1=_;rw[hs,←Jm];exact UN h3
 have l2:env.kindOf x2=some .local:=by show env.scope.names.lookup x2=_;rw[hs,←Jm];exact UN h4
 have hb:(env.blockKind != .function)=false:=by
  have:env.blockKind= .function:=by unfold Env.blockKind;rw[hk];rfl
  rw[this];rfl
 have hst:([v1,v2].any λ | .Starred ..=>true |_=>false)=false:=XfC (XaH h1) (XaH h2)
 have a1:(env.kindOf x1 == some .local&&p1.line == p1.line)=true:=by rw[l1];simp
 have a2:(env.kindOf x2 == some .local&&p2.line == p1.line)=true:=by rw[l2,h5];rfl
 have hd:([x1,x2].eraseDups.length != [x1,x2].length)=false:=by
  have:(x1 == x2)=false:=by
   induction q:(x1 == x2) with
   |false=>rfl
   |true=>rw[eq_of_beq q,ZB] at h6;exact ff h6
  have:(x2 == x1)=false:=by
   induction q:(x2 == x1) with
   |false=>rfl
   |true=>rw[eq_of_beq q,ZB] at h6;exact ff h6
  simp [List.eraseDups_cons,this]
 unfold swappedStores
 show (if (!(([Expr.Name x1 p1,Expr.Name x2 p2]:List Expr).length == 2||([Expr.Name x1 p1,Expr.Name x2 p2]:List Expr).length == 3)||([v1,v2]:List Expr).length != ([Expr.Name x1 p1,Expr.Name x2 p2]:List Expr).length||env.blockKind != .function)=true then _ else _)=_
 rw[if_neg (by rw[hb];simp)]
 show (if ([v1,v2].any λ | .Starred ..=>true |_=>false)=true then _ else _)=_
 rw[if_neg (by rw[hst];decide)]
 dsimp only
 rw[BH x1 x2 (if_pos a1) (if_pos a2)]
 rw[hd]
 rw[if_neg (by simp)]
 show (if [v1,v2].all (foldedForSure 8)=true then _ else _)=_
 rw[if_neg (by rw[YY h7];decide)]
 show (if [v1,v2].all (constantsAlone 8)=true then _ else _)=_
 rw[if_neg (by rw[YY h8];decide)]
def DP(c:Expr->Option M):List Expr->Option (List (M×Nat))
 | []=>some []
 |e::r=>Oe e λo nm _=>o3 (c o) (Nf nm) (DP c r) λx i ts=>(x,i)::ts
def Xnu(cv:List Str)(c:Expr->Option M)(sc:Scope)(e:Expr)(es:List Expr)(u:Expr):Option MS:=on2 es λa b=>UX a λx1 p1=>UX b λx2 p2=>Xav u λvs _ _=>on2 vs λv1 v2=>
 J7 (DQ sc x1 x2 p1 p2 v1 v2) (o3 (Ub cv sc x1) (Ub cv sc x2) (c e) λa b y=>J3 [a,b] y)
def XrR(cv:List Str)(c:Expr->Option M)(sc:Scope)(es:List Expr)(e:Expr):Option MS:=oB (es.all MY) (o2 (DP c es) (c e) Gp) (oB (XjA e) (o2 (NC cv sc es) (c e) J3) (Xnu cv c sc e es e))
def Xnm(cv:List Str)(c:Expr->Option M)(sc:Scope)(e t:Expr):Option MS:=XdD t (λx _=>J7 (Wv e) (o2 (Ub cv sc x) (c e) Xz)) (XdC t (λo nm _=>o3 (c o) (Nf nm) (c e) Xl) (Xn1 t (λo i _=>o3 (c o) (c i) (c e) N8) (Xav t λes _ _=>XrR cv c sc es e)))
def Xnn(cv:List Str)(c:Expr->Option M)(sc:Scope)(e:Expr)(l:List Expr):Option MS:=on1 l (Xnm cv c sc e)
def XrM(c:Expr->Option M)(e:Expr)(op:Operator)(t:Expr):Option MS:=match op with
 | .Add=>Oe t λo nm _=>o3 (c o) (Nf nm) (c e) λx i y=>XeX x i 0 y
 |_=>none
def XrO(c:Expr->Option M):Option Expr->Option MS
 |none=>some XeY
 |some e=>o1 (c e) Xq
noncomputable def XjI(x:Option MS):Option MS:=match x with
 |some y=>some y
 |none=>some Z4
theorem Xlh{x:Option MS}{y:MS}{g:Prop}(h:XjI x=some y)(k1:x=some y->g)(k2:y=Z4->g):g:=by
 induction x with
 |none=>exact k2 (QV h).symm
 |some z=>exact k1 h
def cSs(s:Stmt->Option MS):List Stmt->Option MS
 | []=>some Xg
 |a::r=>o2 (s a) (cSs s r) Xd
def XrN(cv:List Str)(c:Expr->Option M)(sc:Scope)(t it:Expr)(body:Option MS):Option (List Expr)->Option MS
 |some args=>J7 (JA t) (o3 (BX cv sc t) (cL c args) body Dn)
 |none=>J7 (KB it&&Zg t) (o3 (BX cv sc t) (c it) body Ip)
def cS1(cv:List Str)(c:Expr->Option M)(ct:Expr->Option MB)(sc:Scope)(s:Stmt->Option MS):Stmt->Option MS
 | .Return v _=>XrO c v
 | .Expr e _=>J7 (Wv e) (o1 (c e) Zb)
 | .Assign ts e _=>Xnn cv c sc e ts
 | .AugAssign t op e _=>XrM c e op t
 | .If t a b _=>o3 (ct t) (cSs s a) (cSs s b) Yn
 | .For t it body els _=>J7 (Uh els) (XrN cv c sc t it (cSs s body) (J0 sc it))
 | .While t body els _=>J7 (Uh els) (o2 (ct t) (cSs s body) Xmi)
 |_=>none
def cS(cv:List Str)(c:Expr->Option M)(ct:Expr->Option MB)(sc:Scope):Nat->Stmt->Option MS
 | 0,_=>some Z4
 |f + 1,st=>XjI (cS1 cv c ct sc (cS cv c ct sc f) st)
def XY(tb:Tb)(cv:List Str)(sc:Scope)(cn:List Str)(body:List Stmt):Option MS:=cSs (cS cv (Yi tb cv 40 sc cn) (Ut (Yi tb cv 40 sc cn) 40) sc 20) body
section
variable {tb:Tb}{cv:List Str}
theorem XjQ{t:Sem Flow}:SS C n L k Z4 t:=by
 intro A g Ro Rq σ l s m out T e' hno
 exact absurd e'.symm hno
theorem Xa3(hc:∀e x,c e=some x->SE C n L k x (eval e env)):∀{es:List Expr}{ts:List (M×Nat)},DP c es=some ts->Jv C n L k env es ts:=by
 intro ux
 induction ux with
 |nil=>
  intro ts h
  obtain rfl:=QV h;exact .nil
 |cons e r ih=>
  intro ts h
  refine XhU h λo nm p h=>?_
  refine Bh (show o3 (c o) (Nf nm) (DP c r) (λx i ts=>(x,i)::ts)=some ts from h) λx i us e1 e2 e3=>?_
  exact .cons (hc _ _ e1) (ZJ e2) (ih e3)
set_option tactic.hygienic true
theorem Xf0(O:C.Ok)(hk:k.cls=Xr.get)(X:Yu C sc cn cv L env)(hc:∀e x,c e=some x->SE C n L k x (eval e env)){t:Expr}{x:MS}
  (h:Xnm cv c sc e t=some x):SS C n L k x (exec (.Assign [t] e pos) env):=by
 cases t<;>try (exact Xx h;done)
 case Name y p=>
  refine Zz (show J7 (Wv e) (o2 (Ub cv sc y) (c e) Xz)=some x from h) λh1 h=>?_
  refine Ox h λi z e1 e2=>?_
  refine YF (JT X e1) λf1 f2 f3=>?_
  exact XeJ X.l (hc _ _ e2) f1 f2 f3 h1
 case Attribute o nm p=>
  refine Bh (show o3 (c o) (Nf nm) (c e) Xl=some x from h) λa i z e1 e2 e3=>?_
  exact Xly O hk (hc _ _ e3) (hc _ _ e1) (ZJ e2) Xb1
 case Subscript o i p=>
  refine Bh (show o3 (c o) (c i) (c e) N8=some x from h) λa b z e1 e2 e3=>?_
  exact Xlz (hc _ _ e3) (hc _ _ e1) (hc _ _ e2) Xe2
 case Tuple es kk p=>
  refine oBE (show oB _ _ _=some x from h) (λha h=>?_) λ_ h=>oBE h (λhn h=>?_) λ_ h=>?_
  ·refine Ox h λts z e1 e2=>?_
   exact Xho O hk (hc _ _ e2) (Xa3 hc e1) WG (OP ha)
  ·refine Ox h λns z e1 e2=>?_
   exact XlA X.l (hc _ _ e2) (O0 X e1) WG (OQ hn)
  ·refine KG h λa b h=>?_
   refine N6 h λx1 p1 h=>?_
   refine N6 h λx2 p2 h=>?_
   have he:∃v1 v2 k2 vp,e= .Tuple [v1,v2] k2 vp/\_:=Xmx h λx n p h=>KG h λa b h=>⟨a,b,n,p,rfl,h⟩
   refine x42 he λv1 v2 k2 vp e1 h=>?_;subst e1
   refine Zz h λh1 h=>?_
   refine Bh h λi j z e1 e2 e3=>?_
   refine YF (JT X e1) λf1 f2 f3=>?_
   refine YF (JT X e2) λg1 g2 g3=>?_
   refine Xhp X.l (hc _ _ e3) f1 g1 f2 g2 f3 g3 ?_ WG (Ma X.sc X.l.kind h1)
   rintro rfl
   exact Xmp (XcV h1) (QV (f1.symm.trans g1))
theorem XcU{s:Stmt->Option MS}(hs:∀a x,s a=some x->SS C n L k x (exec a env)):∀{b:List Stmt}{x:MS},cSs s b=some x->SS C n L k x (execs b env):=by
 intro ux
 induction ux with
 |nil=>
  intro x h
  obtain rfl:=QV h;exact XeK
 |cons a r ih=>
  intro x h
  refine Ox (show o2 (s a) (cSs s r) Xd=some x from h) λy z e1 e2=>?_
  exact XeL (hs _ _ e1) (ih e2)
theorem Xkv(O:C.Ok)(TB:Ua C tb)(HF:Xm C.ρ k.F)(hcal:XB C n k.call)(hk:k.cls=Xr.get)(X:Yu C sc cn cv L env)(hc:∀e x,c e=some x->SE C n L k x (eval e env))
  {ct:Expr->Option MB}(hct:∀e x,ct e=some x->SB C n L k x (isTrue e env (eval e env))){s:Stmt->Option MS}(ih:∀a x,s a=some x->SS C n L k x (exec a env)){st:Stmt}{x:MS}(hy:cS1 cv c ct sc s st=some x):SS C n L k x (exec st env):=by
 have hb:=λb x=>XcU (b:=b) (x:=x) ih
 cases st<;>try (exact Xx hy;done)
 case Return v pos=>
  induction v with
  |none=>obtain rfl:=QV hy;exact XlD
  |some e=>
   refine Gj hy λz e1=>?_
   exact XjR (hc _ _ e1)
 case Expr e pos=>
  refine Zz hy λh1 hy=>?_
  refine Gj hy λz e1=>?_
  exact XvR (hc _ _ e1) (by unfold interactive;rw[X.l.kind];rfl) h1
 case Assign ts e pos=>
  refine Bj (show on1 ts _=some x from hy) λt hy=>?_
  exact Xf0 O hk X hc hy
 case AugAssign t op e pos=>
  induction op<;>try (exact Xx hy;done)
  refine XhU (show Oe t _=some x from hy) λo nm p hy=>?_
  refine Bh hy λa i z e1 e2 e3=>?_
  exact XlB O hcal hk (hc _ _ e1) (hc _ _ e3) (ZJ e2)
 case If t a b pos=>
  refine Bh hy λz u v e1 e2 e3=>?_
  exact XpB (hct _ _ e1) (hb _ _ e2) (hb _ _ e3)
 case For t it body els pos=>
  refine Zz hy λh1 hy=>?_
  rw[Zr h1]
  induction hr:J0 sc it with
  |some args=>
   rw[hr] at hy
   refine Zz hy λh2 hy=>?_
   refine Bh hy λb ys z e1 e2 e3=>?_
   refine XeP hr λp1 p2 r2 r3=>?_
   refine YF (WZ hc p2 e2) λi1 i2 i3=>?_
   exact XlC O HF X.l TB.rng rfl (by decide) (X.kind r3) (by decide) i2 r2 i1 (WY X e1) (hb _ _ e3) h2
  |none=>
   rw[hr] at hy
   refine Zz hy λh2 hy=>?_
   refine b2 h2 λh2 h3=>?_
   refine Bh hy λb y z e1 e2 e3=>?_
   exact XpA (hc _ _ e2) (WY X e1) (hb _ _ e3) h2 h3
 case While t body els pos=>
  refine Zz hy λh1 hy=>?_
  rw[Zr h1]
  refine Ox hy λz u e1 e2=>?_
  exact XpC (hct _ _ e1) (hb _ _ e2)
set_option tactic.hygienic false
theorem Xns(O:C.Ok)(TB:Ua C tb)(HF:Xm C.ρ k.F)(hcal:XB C n k.call)(hk:k.cls=Xr.get)(X:Yu C sc cn cv L env)(hc:∀e x,c e=some x->SE C n L k x (eval e env))
  {ct:Expr->Option MB}(hct:∀e x,ct e=some x->SB C n L k x (isTrue e env (eval e env)))(f:Nat):∀(st:Stmt)(x:MS),cS cv c ct sc f st=some x->SS C n L k x (exec st env):=by
 induction f with
 |zero=>intro st x h;obtain rfl:=QV h;exact XjQ
 |succ f ih=>
  intro st x h
  exact Xlh h (λhy=>Xkv O TB HF hcal hk X hc hct ih hy) λe=>e▸XjQ
theorem X6(O:C.Ok)(TB:Ua C tb)(HF:Xm C.ρ k.F)(HG:XS C.ρ k.G)(hcal:XB C n k.call)(hk:k.cls=Xr.get)(hw:k.wheelC=842)(X:Yu C sc cn cv L env){x:MS}(h:XY tb cv sc cn body=some x):SS C n L k x (execs body env):=by
 have hc:=YC (cv:=cv) O TB HF HG hcal hk hw 40 sc cn L env X
 exact XcU (λa x h=>Xns O TB HF hcal hk X hc (λe x h=>GX HF hc h) 20 a x h) h
end
noncomputable def gtL:List (Str×V×Rm):=[(QW "plus",.fn 96,.ref 96),
 (QW "distance",.fn 103,.ref 103),
 (QW "is_before",.fn 110,.ref 110),
 (QW "latest",.fn 124,.ref 124),
 (QW "EVERY",.int (Xn 2),.int 2 339),
 (QW "AckPolicy",.cls 177,.ref 177),
 (QW "Congestion",.cls 261,.ref 261),
 (QW "MOST_SHIFT_retransmit",.int (Xn 7),.int 7 527),
 (QW "RetransmitClock",.cls 338,.ref 338),
 (QW "RttEstimate",.cls 394,.ref 394),
 (QW "SendQueue",.cls 450,.ref 450),
 (QW "PeerWindow",.cls 485,.ref 485),
 (QW "Sender",.cls 676,.ref 676),
 (QW "put16",.fn 687,.ref 687),
 (QW "FIN",.int (Xn 1),.int 1 1083),
 (QW "SYN",.int (Xn 2),.int 2 1085),
 (QW "PSH",.int (Xn 8),.int 8 1087),
 (QW "ACK",.int (Xn 16),.int 16 1089),
 (QW "OPTION_MSS",.int (Xn 2),.int 2 1091),
 (QW "MSS_SIZE",.int (Xn 4),.int 4 1093),
 (QW "Segment",.cls 726,.ref 726),
 (QW "check_number",.fn 737,.ref 737),
 (QW "mss_option",.fn 744,.ref 744),
 (QW "CLOSED",.str 0,.str (QW "closed") 1182),
 (QW "LISTEN",.str 1,.str (QW "listen") 1184),
 (QW "SYN_SENT",.str 2,.str (QW "syn sent") 1186),
 (QW "SYN_RECEIVED",.str 3,.str (QW "syn received") 1188),
 (QW "ESTABLISHED",.str 4,.str (QW "established") 1190),
 (QW "FIN_WAIT_1",.str 5,.str (QW "fin wait 1") 1192),
 (QW "FIN_WAIT_2",.str 6,.str (QW "fin wait 2") 1194),
 (QW "CLOSE_WAIT",.str 7,.str (QW "close wait") 1196),
 (QW "CLOSING",.str 8,.str (QW "closing") 1198),
 (QW "LAST_ACK",.str 9,.str (QW "last ack") 1200),
 (QW "TIME_WAIT",.str 10,.str (QW "time wait") 1202),
 (QW "opening_steps",.fn 751,.ref 751),
 (QW "closing_steps",.fn 758,.ref 758),
 (QW "follow",.fn 765,.ref 765),
 (QW "may_send",.fn 772,.ref 772),
 (QW "is_sending",.fn 779,.ref 779),
 (QW "Wheel",.cls 842,.ref 842),
 (QW "RESEND",.int (Xn 1),.int 1 1335),
 (QW "PERSIST",.int (Xn 2),.int 2 1337),
 (QW "DELAYED",.int (Xn 3),.int 3 1339),
 (QW "WAIT",.int (Xn 4),.int 4 1341),
 (QW "MOST_WINDOW",.int (Xn 65535),.int 65535 1343),
 (QW "Limits",.cls 863,.ref 863),
 (QW "clock_of",.fn 874,.ref 874),
 (QW "Tcb",.cls 906,.ref 906),
 (QW "MOST_SHIFT_tcp_user",.int (Xn 7),.int 7 1468),
 (QW "change_state",.fn 917,.ref 917),
 (QW "closed",.fn 924,.ref 924),
 (QW "check_error",.fn 931,.ref 931),
 (QW "open_active",.fn 938,.ref 938),
 (QW "send",.fn 945,.ref 945),
 (QW "close",.fn 952,.ref 952),
 (QW "ack_segment",.fn 959,.ref 959),
 (QW "syn_segment",.fn 966,.ref 966),
 (QW "flags_of",.fn 973,.ref 973),
 (QW "take_asked_fin",.fn 980,.ref 980),
 (QW "data_segments",.fn 987,.ref 987),
 (QW "output",.fn 994,.ref 994),
 (QW "keep_timers",.fn 1001,.ref 1001),
 (QW "probe_wait",.fn 1008,.ref 1008),
 (QW "on_time",.fn 1015,.ref 1015),
 (QW "sent_again",.fn 1022,.ref 1022),
 (QW "segment_again",.fn 1029,.ref 1029),
 (QW "probed",.fn 1036,.ref 1036),
 (QW "Assembly",.cls 1128,.ref 1128),
 (QW "Receiver",.cls 1262,.ref 1262),
 (QW "_law_pool",.fn 1273,.ref 1273),
 (QW "_law_take",.fn 1280,.ref 1280),
 (QW "_law_one",.fn 1287,.ref 1287),
 (QW "_law_opened",.fn 1294,.ref 1294),
 (QW "_law_wait",.fn 1301,.ref 1301),
 (QW "_law_is_begun_anew",.fn 1308,.ref 1308),
 (QW "_law_piece_right",.fn 1313,.ref 1313),
 (QW "_law_tries_right",.fn 1318,.ref 1318),
 (QW "_law_next_right",.fn 1325,.ref 1325),
 (QW "_law_probes_right",.fn 1330,.ref 1330),
 (QW "_law_late_right",.fn 1335,.ref 1335),
 (QW "law",.fn 1342,.ref 1342)]
noncomputable def btL:List (Str×Nat×Rm):=[(QW "len",0,.builtin "len"),(QW "min",1,.builtin "min"),(QW "max",2,.builtin "max"),(QW "int",3,.type "int"),(QW "bytes",4,.type "bytes"),(QW "list",6,.type "list"),(QW "sorted",7,.builtin "sorted")]
def Z6:Tb:=⟨gtL,btL⟩
theorem XcL:∀{ps:List Nat}{ds:List V}{l:YG},IR ps ds=some l->ps.length=ds.length/\l=ps.zip ds:=by
 intro ps
 induction ps with
 |nil=>
  intro ds l h
  induction ds with
  |nil=>obtain rfl:=QV h;exact ⟨rfl,rfl⟩
  |cons _ _ _=>exact Xx h
 |cons p ps ih=>
  intro ds l h
  induction ds with
  |nil=>exact Xx h
  |cons d ds _=>
   refine Z8 (show oc (IR ps ds) none (λl=>some ((p,d)::l))=some l from (by rw[←h];show _=(IR ps ds).map _;induction IR ps ds<;>rfl)) λl' q h=>?_
   obtain rfl:=QV h
   exact Iv (ih q) λh1 h2=>⟨congrArg (· + 1) h1,by rw[h2];rfl⟩
theorem Xa0{p:α}{ps:List α}{ds:List β}(h:(p::ps).length=ds.length - (ds.length - (ps.length + 1))):(p::ps).length<=([]:List γ).length + ds.length:=by
 rw[h,List.length_nil,QM];exact Nat.sub_le _ _
theorem GM:∀{ps:List Nat}{as ds:List V}{l:YG},Jg ps as ds=some l->as.length<=ps.length/\ps.length<=as.length + ds.length/\l=ps.zip (as++ds.drop (as.length + ds.length - ps.length)):=by
 intro ps
 induction ps with
 |nil=>
  intro as ds l h
  induction as with
  |nil=>obtain rfl:=QV h;exact ⟨QS _,Rg _,by simp⟩
  |cons _ _ _=>exact Xx h
 |cons p ps ih=>
  intro as ds l h
  induction as with
  |nil=>
   refine Iv (XcL (show IR (p::ps) (ds.drop (ds.length - (ps.length + 1)))=some l from h)) λh1 h2=>?_
   rw[List.length_drop] at h1
   have e:([]:List V).length + ds.length - (p::ps).length=ds.length - (ps.length + 1):=by rw[List.length_nil,QM];rfl
   refine ⟨Rg _,Xa0 h1,?_⟩
   rw[e,h2];rfl
  |cons a as _=>
   refine Z8 (show oc (Jg ps as ds) none (λl=>some ((p,a)::l))=some l from (by rw[←h];show _=(Jg ps as ds).map _;induction Jg ps as ds<;>rfl)) λl' q h=>?_
   obtain rfl:=QV h
   refine YF (ih q) λh1 h2 h3=>?_
   refine ⟨Nat.succ_le_succ h1,by rw[Qp,Qp,QX];exact Nat.succ_le_succ h2,?_⟩
   have e:(a::as).length + ds.length - (p::ps).length=as.length + ds.length - ps.length:=by rw[Qp,Qp,QX,Nat.add_sub_add_right]
   rw[e,h3];rfl
theorem YH.drop:∀{n:Nat}{us:List V}{vs:List Rm},YH ρ Ro us vs->YH ρ Ro (us.drop n) (vs.drop n)
 | 0,_,_,h=>h
 |n + 1,_,_,.nil=> .nil
 |n + 1,_,_,.cons _ h=>YH.drop (n:=n) h
theorem OH:∀{l:List (Str×α)}{x:Str}{y:α},(l.map (·.1)).Nodup->(x,y)∈l->l.lookup x=some y:=by
 intro ux
 induction ux with
 |cons ua r ih=>
  obtain ⟨a,b⟩:=ua
  intro x y hn hm
  obtain ⟨h1,h2⟩:=List.nodup_cons.mp hn
  rw[Rd]
  rcases Qe hm with e |e
  ·cases e;rw[QR]
  ·have:(x == a)=false:=by
    induction q:(x == a) with
    |false=>rfl
    |true=>
     rw[eq_of_beq q] at e
     exact absurd (Qc ⟨_,e,rfl⟩) h1
   rw[this]
   exact ih h2 e
 |nil=>
  intro v0 v1 v2 v3
  contradiction
theorem UR:∀{P:List α}{ys:List β},P.length<=ys.length->(P.zip ys).map (·.1)=P
 | [],_,_=>rfl
 |p::P,y::ys,h=>congrArg (p::·) (UR (Nat.le_of_succ_le_succ h))
 |_::_,[],h=>by cases h
theorem XbE:∀{ps:List Nat}{P:List Str}{us:List V}{vs:List Rm},P.map Nf=ps.map some->YH ρ Ro us vs->Xh (ps.zip us) n=some v->
  ∃x y,Zc[n]?=some x/\(x,y)∈P.zip vs/\VR ρ Ro v y:=by
 intro ps
 induction ps with
 |nil=>exact λ_ _ h=>Xx h
 |cons p ps ih=>
  intro P us vs h1 R h
  induction P with
  |nil=>exact absurd h1 nofun
  |cons x P _=>
   refine Iv (List.cons.inj (show Nf x::P.map Nf=some p::ps.map some from h1)) λh2 h3=>?_
   induction us with
   |nil=>exact Xx h
   |cons u us _=>
    refine R.consE λy vs r rs=>?_
    refine GK (show bc (Nat.beq p n) (some u) (Xh (ps.zip us) n)=some v from h) (λq h=>?_) λ_ h=>?_
    ·obtain rfl:=QV h
     rw[←Qi q]
     exact ⟨x,y,ZJ h2,Ql,r⟩
    ·exact UB (ih h3 rs h) λx' y' f1 f2 f3=>⟨x',y',f1,Qm _ f2,f3⟩
def Z2:List Str->Bool
 | []=>true
 |a::r=> !(GA r a)&&Z2 r
theorem XgH:∀{l:List Str}{x:Str},x∈l->GA l x=true:=by
 intro ux
 induction ux with
 |cons a r ih=>
  intro x h
  show bc (IL a x) true (GA r x)=true
  rcases Qe h with rfl |h
  ·rw[ZB]
  ·rw[ih h];induction IL a x<;>rfl
 |nil=>
  intro v0 v1
  contradiction
theorem XbL:∀{l:List Str},Z2 l=true->l.Nodup:=by
 intro ux
 induction ux with
 |nil=>
  intro _
  exact QP
 |cons a r ih=>
  intro h
  refine b2 (show (!(GA r a)&&Z2 r)=true from h) λh1 h2=>?_
  refine List.nodup_cons.mpr ⟨λhm=>?_,ih h2⟩
  rw[XgH hm] at h1
  exact ff h1
def J9(K:Frag)(fd:FuncData)(P:List Str)(dv:List Rm):Prop:=
 ∀vs:List Rm,vs.length<=P.length->P.length<=vs.length + dv.length->∀S,peek K S (bindArgs fd ⟨vs,[]⟩)=some (P.zip (vs++dv.drop (vs.length + dv.length - P.length)))
theorem XbB{v d p:Nat}(h1:v<=p)(h2:p<=v + d):p<=v + (d - (v + d - p)):=by omega
theorem U9(Ry:C.cellv=[]){P:List Str}(hP:P.map Nf=fc.params.map some)(hN:Z2 P=true)(hloc:(P.all λx=>Jz (XC fd.scope.names x))=true)
  (hd:∀Ro,YH C.ρ Ro fc.dflts dv)(hb:J9 C.K fd P dv):Dy C fd fc:=by
 intro Ro args vs l s X R e
 refine YF (GM e) λh1 h2 h3=>?_
 have lp:P.length=fc.params.length:=by rw[←Qs (f:=Nf),hP,Qs]
 have la:=R.length
 have ld:=(hd Ro).length
 have R':YH C.ρ Ro (args++fc.dflts.drop (args.length + fc.dflts.length - fc.params.length)) (vs++dv.drop (vs.length + dv.length - P.length)):=by
  rw[lp,←la,←ld]
  exact R.app (hd Ro).drop
 have ln:=R'.length
 have h1':vs.length<=P.length:=by rw[lp,←la];exact h1
 have h2':P.length<=vs.length + dv.length:=by rw[lp,←la,←ld];exact h2
 have hz:P.length<=(vs++dv.drop (vs.length + dv.length - P.length)).length:=by
  rw[Qw,List.length_drop]
  exact XbB h1' h2'
 refine ⟨_,kp_binds X (hb vs h1' h2'),λx hx=>?_,?_⟩
 ·have hm:x.1∈P:=by
   rw[←UR hz]
   exact Qc ⟨x,hx,rfl⟩
  have:=Qf hloc _ hm
  rw[←Jm]
  exact UN this
 ·intro n v e
  rw[h3] at e
  refine UB (XbE hP R' e) λx y f1 f2 f3=>?_
  refine ⟨x,y,f1,?_,f3⟩
  unfold IP
  rw[Ry]
  refine OH ?_ (List.mem_reverse.mpr f2)
  rw[List.map_reverse,UR hz]
  exact (List.reverse_perm P).nodup_iff.mpr (XbL hN)
def KE(sc:Scope):Bool:=Gh sc.names&&(!sc.isCoroutine&&(!sc.isGenerator&&Xan sc.kind))
theorem Xgv(O:C.Ok)(Ry:C.cellv=[]){tb:Tb}(TB:Ua C tb){f:Rn}{oc:Rm}{sl}{P:List Str}
  (h1:C.K.lookup f=some ⟨oc,od,.func (fnOf name qual params body scope dV kV doc pm an cdv ct),sl⟩)(h2:codeIn C.K cdv qual=true)(h3:KE scope=true)
  (hP:P.map Nf=fc.params.map some)(hN:Z2 P=true)(hloc:(P.all λx=>Jz (XC scope.names x))=true)(hd:∀Ro,YH C.ρ Ro fc.dflts dv)
  (hb:J9 C.K (fnOf name qual params body scope dV kV doc pm an cdv ct) P dv)(h5:XY tb [] scope [] body=some fc.body)(n:Nat)(cal:Je)(hc:XB C n cal):
  DA C n f (fnOf name qual params body scope dV kV doc pm an cdv ct) fc body cal:=by
 refine b4 h3 λg1 g2 g3 g4=>?_
 exact {obj:=⟨_,_,_,h1⟩,code:=h2,stmts:=rfl,cell:=ZK g1,co:=YY g2,gen:=YY g3,kind:=YM g4,bind:=U9 Ry hP hN hloc hd hb,run:=λL F G HF HG=>X6 (k:=⟨F,G,Xr.get,842,cal⟩) O TB HF HG hc rfl rfl (show Yu C scope [] [] L (callEnv (fnOf name qual params body scope dV kV doc pm an cdv ct) L f) from ⟨⟨rfl,rfl,rfl,YM g4⟩,rfl,nofun,λx _=>by rw[Ry];rfl⟩) h5}
set_option tactic.hygienic true in
theorem NP:∀{l:List (Str×α)}{x:Str}{v:α},XC l x=some v->(x,v)∈l:=by
 intro ux
 induction ux with
 |cons ua r ih=>
  obtain ⟨a,b⟩:=ua
  intro x v h
  refine GK h (λq h=>?_) λ_ h=>Qm _ (ih h)
  obtain rfl:=QV h
  rw[←U3 q];exact Ql
 |nil=>
  intro v0 v1 v2
  contradiction
def Iw(y:Rm)(k:Rn->Bool):Bool:=match y with
 | .ref b=>k b
 |_=>false
@[elab_as_elim] theorem Ot{y:Rm}{k:Rn->Bool}{m:Rm->Prop}(h:Iw y k=true)(f:∀b,k b=true->m (.ref b)):m y:=by
 induction y<;>first |exact f _ h |exact ff h
def Xqd(i:LI)(y:Rm):Bool:=match y with
 | .int z _=>Uh i.t&&decide (i.c=z)
 |_=>false
def Xla(o:Option Nat)(k:Nat):Bool:=match o with
 |some j=>Nat.beq j k
 |none=>false
def Xqe(k:Nat)(y:Rm):Bool:=match y with
 | .str x _=>Xla (smI x) k
 |_=>false
def XmC(u:V)(y:Rm):Bool:=match u with
 | .fn a=>Iw y (Nat.beq a)
 | .cls a=>Iw y (Nat.beq a)
 | .int i=>Xqd i y
 | .str k=>Xqe k y
 |_=>false
theorem XhJ{y:Rm}(h:XmC u y=true):VR ρ Ro u y:=by
 induction u with
 |fn a=>exact Ot (show Iw y _=true from h) λb e=>by rw[Qi e];exact .fn _
 |cls a=>exact Ot (show Iw y _=true from h) λb e=>by rw[Qi e];exact .cls _
 |int i=>induction y with
  |int z t=>
   refine b2 h λh1 h2=> .int _ _ _ ?_
   unfold LI.val
   rw[Zr h1,Qt h2]
   exact Rb _
  |_=>exact ff h
 |str k=>induction y with
  |str x t=>
   induction q:smI x with
   |none=>replace h:Xla (smI x) k=true:=h;rw[q] at h;exact ff h
   |some j=>
    replace h:Xla (smI x) k=true:=h
    rw[q] at h
    rw[Qi h] at q
    exact .str _ _ _ (Xe1 q)
  |_=>exact ff h
 |_=>exact ff h
theorem XhI{y z:Rm}(h:XmC u y=true)(hf:isF u=true)(r:VR ρ Ro u z):z=y:=by
 induction u with
 |fn a=>exact Ot (show Iw y _=true from h) λb e=>by refine r.fnE ?_;rw[Qi e]
 |cls a=>exact Ot (show Iw y _=true from h) λb e=>by refine r.clsE ?_;rw[Qi e]
 |_=>exact ff hf
theorem XdM(P:Rj):gtL.map (λe=>nsIn (KF P) mainGlobals e.1)=gtL.map λe=>some (some e.2.2):=by kernel_rfl
theorem Xah:(gtL.all λe=>XmC e.2.1 e.2.2&& !(IL ("__debug__":Str) e.1))=true:=by kernel_rfl
theorem XgF(P:Rj):(gtL.all λe=>match isF e.2.1 with
  |true=>keepIn (KF P) e.2.2
  |false=>true)=true:=by kernel_rfl
theorem XcN(P:Rj):btL.map (λe=>nsIn (KF P) mainGlobals e.1)=btL.map λ_=>some none:=by kernel_rfl
theorem XfY:btL.map (λe=>bootBuiltins e.1)=btL.map λe=>some e.2.2:=by kernel_rfl
theorem XfZ:(btL.all λe=>XgI e.2.2&&(!(IL ("__debug__":Str) e.1)&& !(IL ("__name__":Str) e.1)))=true:=by kernel_rfl
theorem Bq(P:Rj):nsIn (KF P) mainGlobals ("range":Str)=some none:=by kernel_rfl
theorem Xnl(H:Xm C.ρ k.F):∀e∈btL,Oy C k.F e.2.1 e.2.2:=by
 intro e he
 rcases Qe he with rfl |he
 ·exact XcD
 rcases Qe he with rfl |he
 ·exact XcH H
 rcases Qe he with rfl |he
 ·exact XcF H
 rcases Qe he with rfl |he
 ·exact XcC
 rcases Qe he with rfl |he
 ·exact Mt
 rcases Qe he with rfl |he
 ·exact XaZ
 rcases Qe he with rfl |he
 ·exact GL
 ·cases he
theorem JO(hK:C.K=KF P):Ua C Z6 where
 gl x u y h:=by
  have hm:=NP h
  have h1:=List.map_inj_left.mp (XdM P) _ hm
  have h2:=Qf Xah _ hm
  refine b2 h2 λh2 h3=>?_
  refine ⟨by rw[hK];exact h1,λRo=>XhJ h2,?_⟩
  rw[WV];exact YY h3
 fn x u y h hf:=by
  have hm:=NP h
  have h2:=Qf Xah _ hm
  refine b2 h2 λh2 h3=>?_
  have h4:=Qf (XgF P) _ hm
  refine ⟨λRo z r=>XhI h2 hf r,?_⟩
  rw[hK]
  dsimp only at h4
  rw[hf] at h4
  exact h4
 bi x i v h:=by
  have hm:=NP h
  have h1:=List.map_inj_left.mp (XcN P) _ hm
  have h2:=List.map_inj_left.mp XfY _ hm
  have h3:=Qf XfZ _ hm
  refine b3 h3 λh3 h4 h5=>?_
  refine ⟨by rw[hK];exact h1,h2,?_,h3,by rw[WV];exact YY h4,λk H=>Xnl H _ hm⟩
  rintro rfl
  dsimp only at h5
  rw[ZB] at h5
  exact ff h5
 rng:=by rw[hK];exact Bq P
def yBi(y:Rm)(k:String->Bool):Bool:=match y with
 | .builtin s=>k s
 |_=>false
@[elab_as_elim] theorem Xwd{y:Rm}{k:String->Bool}{m:Rm->Prop}(h:yBi y k=true)(f:∀b,k b=true->m (.builtin b)):m y:=by
 cases y<;>first |exact f _ h |exact ff h
def yTy(y:Rm)(k:String->Bool):Bool:=match y with
 | .type s=>k s
 |_=>false
@[elab_as_elim] theorem Xwe{y:Rm}{k:String->Bool}{m:Rm->Prop}(h:yTy y k=true)(f:∀b,k b=true->m (.type b)):m y:=by
 cases y<;>first |exact f _ h |exact ff h
def DY(K:Frag)(c:Nat)(mask:Nat):List Str->Nat->Bool
 | [],_=>true
 |x::r,n=>bc (WX mask n) (oc (findIn K (.ref c) x) false λattr=>noGet K attr&&oc (takerIn K c x) false λt=>t.isNone) true&&DY K c mask r (n + 1)
def M0(a:Nat)(o:Option (Option Rm)):Bool:=oc o false λo=>oc o false λy=>Iw y λb=>Nat.beq b a
def Xam(s:String)(o:Option (Option Rm)):Bool:=oc o false λo=>oc o false λy=>yBi y λb=>b == s
theorem XdU{a:Nat}{o:Option (Option Rm)}(h:M0 a o=true):o=some (some (.ref a)):=
 Bi h λ_ e1 h=>Bi h λy e2 h=>by rw[e1,e2];exact Ot h λb hs=>by rw[Qi hs]
theorem Xjr{s:String}{o:Option (Option Rm)}(h:Xam s o=true):o=some (some (.builtin s)):=
 Bi h λ_ e1 h=>Bi h λy e2 h=>by rw[e1,e2];exact Xwd h λb hs=>by rw[eq_of_beq hs]
def Xg0(K:Frag)(c:Nat)(p:Nat×Nat):Bool:=oc Zc[p.1]? false λx=>M0 p.2 (findIn K (.ref c) x)&&(isFn K (.ref p.2)&&keepIn K (.ref p.2))
def Xhl(K:Frag)(c:Nat)(p:Nat×Nat):Bool:=oc Zc[p.1]? false λx=>oc (findIn K (.ref c) x) false λo=>oc o false λy=>Iw y λq=>
 Xam "property.__get__" (specialIn K (.ref q) "__get__")&&(oc (takesIn K (.ref q)) false id&&oc (recIn K q "property") false λl=> @List.rec Rm (λ_=>Bool) false (λy _ _=>Iw y λb=>Nat.beq b p.2) l)
def Xn4(o:Option Rm):Bool:=oc o false λy=>yTy y λs=>s == "function"
def XcZ(K:Frag)(c:Nat)(cl:Ig):Bool:=
 plainGet K c Str.empty&&(hasDictIn K c&&(Xam "object.__setattr__" (findIn K (.ref c) "__setattr__")&&(plainOver K c&&(makesIn K c&&(keepIn K (.ref c)&&(M0 cl.init (findIn K (.ref c) "__init__")&&(Xn4 (typeIn K (.ref cl.init))&&
  (DY K c cl.mask Zc 0&&(cl.meths.all (Xg0 K c)&&cl.props.all (Xhl K c))))))))))
set_option tactic.hygienic true
theorem Xbk{K:Frag}{c mask:Nat}:∀{l:List Str}{i:Nat},DY K c mask l i=true->∀d x,WX mask (i + d)=true->l[d]?=some x->∃attr,findIn K (.ref c) x=some attr/\noGet K attr=true/\takerIn K c x=some none:=by
 intro ux
 induction ux with
 |nil=>
  intro i h d x hb hx
  exact Xx hx
 |cons y r ih=>
  intro i h d x hb hx
  refine b2 (show (bc (WX mask i) _ true&&DY K c mask r (i + 1))=true from h) λh1 h2=>?_
  induction d with
  |zero=>
   obtain rfl:=QV hx
   rw[Nat.add_zero] at hb
   rw[hb] at h1
   refine Bi h1 λattr q h1=>b2 h1 λh3 h4=>Bi h4 λt q2 h5=>⟨attr,q,h3,?_⟩
   rw[q2,Option.isNone_iff_eq_none.mp h5]
  |succ d=>exact ih h2 d x (by rw[←hb];congr 1;lia) hx
theorem Zs:∀{l:List (Nat×α)}{n:Nat}{v:α},Xh l n=some v->(n,v)∈l:=by
 intro ux
 induction ux with
 |cons p r ih=>
  intro n v h
  replace h:bc (Nat.beq p.1 n) (some p.2) (Xh r n)=some v:=h
  induction q:Nat.beq p.1 n with
  |true=>
   rw[q] at h
   cases h
   rw[←Qi q]
   exact Ql
  |false=>
   rw[q] at h
   exact Qm _ (ih h)
 |nil=>
  intro v0 v1 v2
  contradiction
theorem Xbc{K:Frag}{c:Nat}{cl:Ig}(h:XcZ K c cl=true):Xce K c cl:=by
 refine b9 h λh1 h2 h3 h4 h5 h6 h7 h8 h=>?_
 refine b3 h λh9 h10 h11=>?_
 refine {get:=h1,hasD:=h2,setA:=?_,over:=h4,makes:=h5,keep:=h6,init:=?_,initF:=?_,fld:=λn x hb hx=>Xbk h9 n x (by rw[QM];exact hb) hx,meth:=λn a e=>?_,prop:=λn a e=>?_}
 ·exact Xjr h3
 ·exact XdU h7
 ·refine Bi h8 λy q h=>?_
  rw[q]
  exact Xwe h λs hs=>by rw[eq_of_beq hs]
 ·have hm:=Qf h10 _ (Zs e)
  exact Bi hm λx hx hm=>b3 hm λm1 m2 m3=>⟨x,hx,XdU m1,m2,m3⟩
 ·have hm:=Qf h11 _ (Zs e)
  refine Bi hm λx hx hm=>Bi hm λo ho hm=>Bi hm λy hy hm=>?_
  rw[hy] at ho
  have key:∃q,y= .ref q/\(Xam "property.__get__" (specialIn K (.ref q) "__get__")&&(oc (takesIn K (.ref q)) false id&&oc (recIn K q "property") false λl=> @List.rec Rm (λ_=>Bool) false (λy _ _=>Iw y λb=>Nat.beq b a) l))=true:=Ot hm λq hm=>⟨q,rfl,hm⟩
  obtain ⟨q,rfl,hm⟩:=key
  refine b3 hm λm1 m2 m3=>Bi m2 λt q2 h5=>Bi m3 λl hr m3=>?_
  induction l with
  |nil=>exact ff m3
  |cons z rest _=>
   have hz:z= .ref a:=Ot (show Iw z _=true from m3) λb e=>by rw[Qi e]
   exact ⟨x,q,rest,hx,ho,Xjr m1,by rw[q2];exact congrArg some h5,by rw[hr,hz]⟩
set_option tactic.hygienic false
theorem BT.get_mem:∀{t:BT α}{a:Nat}{v:α},t.get a=some v->(a,v)∈t.all
 | .leaf i w,a,v,h=>by
  replace h:bc (Nat.beq a i) (some w) none=some v:=h
  refine Wg h λh1 h2=>?_
  cases h2
  rw[Qi h1]
  exact Ql
 | .node i l r,a,v,h=>by
  replace h:bc (Nat.ble a i) (l.get a) (r.get a)=some v:=h
  induction q:Nat.ble a i with
  |true=>rw[q] at h;exact QK _ (BT.get_mem h)
  |false=>rw[q] at h;exact Qk _ (BT.get_mem h)
theorem Xgf(P:Rj):(Xr.all.all λp=>XcZ (KF P) p.1 p.2)=true:=by kernel_rfl
theorem Xbd(P:Rj)(c:Nat)(cl:Ig)(h:Xr.get c=some cl):Xce (KF P) c cl:=Xbc (Qf (Xgf P) _ (BT.get_mem h))
theorem Xsg{l:List α}(h:l.length=0):l=[]:=by
 match l,h with
 | [],_=>exact rfl
theorem Xsh{l:List α}(h:l.length=1):∃x0,l=[x0]:=by
 match l,h with
 | [x0],_=>exact ⟨_,rfl⟩
theorem Xsi{l:List α}(h:l.length=2):∃x0 x1,l=[x0,x1]:=by
 match l,h with
 | [x0,x1],_=>exact ⟨_,_,rfl⟩
theorem XbA{l:List α}{g:Prop}(h:l.length=n + 1)(f:∀x t,l=x::t->t.length=n->g):g:=by
 induction l with
 |nil=>exact absurd h.symm (Nat.succ_ne_zero n)
 |cons x t _=>exact f x t rfl (Nat.succ.inj h)
theorem XkZ{l:List α}(h:l.length=4):∃x0 x1 x2 x3,l=[x0,x1,x2,x3]:=
 XbA h λx0 _ e0 h=>XbA h λx1 _ e1 h=>XbA h λx2 _ e2 h=>XbA h λx3 _ e3 h=>⟨x0,x1,x2,x3,by rw[e0,e1,e2,e3,List.length_eq_zero_iff.mp h]⟩
theorem Xsj{l:List α}(h:l.length=5):∃x0 x1 x2 x3 x4,l=[x0,x1,x2,x3,x4]:=
 XbA h λx0 t e0 h=>(XkZ h).elim λx1 e=>e.elim λx2 e=>e.elim λx3 e=>e.elim λx4 e=>⟨x0,x1,x2,x3,x4,by rw[e0,e]⟩
noncomputable abbrev fdO(name qual:String)(A:Arguments×List Stmt×Scope)(dV kV pm cd:Rm):FuncData:=fnOf name qual A.1 A.2.1 A.2.2 dV kV .none pm none cd .none
def Ml:Nat->(List Rm->Prop)->Prop
 | 0,p=>p []
 |n + 1,p=>∀x,Ml n λl=>p (x::l)
theorem Ml.get:∀{n:Nat}{p:List Rm->Prop},Ml n p->∀vs:List Rm,vs.length=n->p vs:=by
 intro n
 induction n with
 |zero=>intro p h vs e;rw[List.length_eq_zero_iff.mp e];exact h
 |succ n ih=>
  intro p h vs e
  refine XbA e λx t e1 e2=>?_
  rw[e1]
  exact ih (p:=λl=>p (x::l)) (h x) t e2
def Xch(p:List Rm->Prop):Nat->Nat->Prop
 |lo,0=>Ml lo p
 |lo,k + 1=>Ml lo p/\Xch p (lo + 1) k
theorem Xch.get{p:List Rm->Prop}:∀{k lo:Nat},Xch p lo k->∀vs:List Rm,lo<=vs.length->vs.length<=lo + k->p vs:=by
 intro k
 induction k with
 |zero=>exact λh vs h1 h2=>Ml.get h vs (Nat.le_antisymm h2 h1)
 |succ k ih=>
  intro lo h vs h1 h2
  by_cases e:vs.length=lo
  ·exact Ml.get h.1 vs e
  ·exact ih h.2 vs (Nat.lt_of_le_of_ne h1 (Ne.symm e)) (QH h2 (Nat.le_of_eq (QX lo k 1)))
noncomputable abbrev Xfy:=Arguments×List Stmt×Scope
def ms(m:String)(t:Nat):Rm:= .str (QW m) t
structure FB(a:Nat)(name qual:String)(A:Xfy)(dV kV pm:Rm)(cd:Nat)(Pn:List String)(dv:List Rm)(fc:X7):Prop where
 l:∀P,(KF P).lookup a=some (fo name qual A dV kV pm (.ref cd)):=by intro;kernel_rfl
 k:∀P,codeIn (KF P) (.ref cd) (QW qual)=true:=by intro;kernel_rfl
 p:(Pn.map QW).map Nf=fc.params.map some:=by kernel_rfl
 q:(KE A.2.2&&(Z2 (Pn.map QW)&&(Pn.map QW).all λx=>Jz (XC A.2.2.names x)))=true:=by kernel_rfl
 b:∀P,Xch (λvs=>∀S,peek (KF P) S (bindArgs (fdO name qual A dV kV pm (.ref cd)) ⟨vs,[]⟩)=some ((Pn.map QW).zip (vs++dv.drop (vs.length + dv.length - (Pn.map QW).length)))) (Pn.length - dv.length) dv.length:=by
  repeat' first |intro _ |apply And.intro |kernel_rfl
 c:XY Z6 [] A.2.2 [] A.2.1=some fc.body:=by kernel_rfl
 d:∀ρ Ro,YH ρ Ro fc.dflts dv:=by
  intros
  repeat' constructor
theorem FB.binds{a:Nat}{name qual:String}{A:Xfy}(h:FB a name qual A dV kV pm cd Pn dv fc)(P:Rj):J9 (KF P) (fdO name qual A dV kV pm (.ref cd)) (Pn.map QW) dv:=λvs h1 h2=>by
 have hl:(Pn.map QW).length=Pn.length:=Qs ..
 exact Xch.get (h.b P) vs (Nat.sub_le_iff_le_add.mpr (by rw[←hl];exact h2)) (QH (by rw[←hl];exact h1) (Nat.le_add_of_sub_le (QS _)))
theorem fx{a:Nat}{name qual:String}{A:Xfy}(h:FB a name qual A dV kV pm cd Pn dv fc)(O:C.Ok)(Ry:C.cellv=[])(hK:C.K=KF P)(n:Nat)(cal:Je)(hc:XB C n cal):
  DA C n a (fdO name qual A dV kV pm (.ref cd)) fc A.2.1 cal:=by
 refine b3 h.q λq1 q2 q3=>?_
 exact Xgv O Ry (JO hK) (by rw[hK];exact h.l P) (by rw[hK];exact h.k P) q1 h.p q2 q3 (h.d C.ρ) (by rw[hK];exact h.binds P) h.c n cal hc
theorem F96:FB 96 "plus" "plus" (Yk 8) .none .none (ms tsL 289) 95 ["a","n","ring"] [] XnS:={}
theorem Xqk:FB 103 "distance" "distance" (Yk 9) .none .none (ms tsL 289) 102 ["a","b","ring"] [] Xh4:={}
theorem Xql:FB 110 "is_before" "is_before" (Yk 10) .none .none (ms tsL 289) 109 ["a","b","ring"] [] Xh5:={}
theorem Xqm:FB 124 "latest" "latest" (Yk 12) .none .none (ms tsL 289) 123 ["a","b","ring"] [] Xh6:={}
theorem Xqn:FB 138 "__init__" "AckPolicy.__init__" (XL 15 0) .none .none (ms tsI 337) 137 ["self","delay"] [] Xh7:={}
theorem Xqo:FB 146 "on_octets" "AckPolicy.on_octets" (XL 15 1) (.ref 139) .none (ms tsI 337) 145 ["self","in_order","now","has_holes"] [.bool false] Xh8:={}
theorem Xqp:FB 167 "on_sent" "AckPolicy.on_sent" (XL 15 4) .none .none (ms tsI 337) 166 ["self"] [] Xh9:={}
theorem Xqq:FB 174 "due_time" "AckPolicy.due_time" (XL 15 5) .none .none (ms tsI 337) 173 ["self"] [] Xia:={}
theorem Xqr:FB 195 "__init__" "Congestion.__init__" (XL 17 0) .none .none (ms tsJ 413) 194 ["self","mss","first","most"] [] Xib:={}
theorem Xqs:FB 202 "window" "Congestion.window" (XL 17 1) .none .none (ms tsJ 413) 201 ["self"] [] Xic:={}
theorem Xqt:FB 216 "halved" "Congestion.halved" (XL 17 3) .none .none (ms tsJ 413) 215 ["self","flight"] [] Xid:={}
theorem Xqu:FB 258 "timed_out" "Congestion.timed_out" (XL 17 9) .none .none (ms tsJ 413) 257 ["self","flight"] [] Xie:={}
theorem Xqv:FB 279 "__init__" "RetransmitClock.__init__" (XL 20 0) .none .none (ms tsD 525) 278 ["self","estimate","most_tries"] [] Xif:={}
theorem Xqw:FB 293 "sent" "RetransmitClock.sent" (XL 20 2) .none .none (ms tsD 525) 292 ["self","seq_end","now"] [] Xig:={}
theorem Xqx:FB 300 "forget" "RetransmitClock.forget" (XL 20 3) .none .none (ms tsD 525) 299 ["self"] [] Xih:={}
theorem Xqy:FB 314 "back_off" "RetransmitClock.back_off" (XL 20 5) .none .none (ms tsD 525) 313 ["self"] [] Xii:={}
theorem Xqz:FB 328 "waited" "RetransmitClock.waited" (XL 20 7) .none .none (ms tsD 525) 327 ["self"] [] Xij:={}
theorem XqA:FB 335 "deadline" "RetransmitClock.deadline" (XL 20 8) .none .none (ms tsD 525) 334 ["self","now"] [] Xik:={}
theorem XqB:FB 356 "__init__" "RttEstimate.__init__" (XL 22 0) .none .none (ms tsK 628) 355 ["self","first","least","most"] [] Xil:={}
theorem XqC:FB 377 "plain_timeout" "RttEstimate.plain_timeout" (XL 22 3) .none .none (ms tsK 628) 376 ["self"] [] Xim:={}
theorem XqD:FB 384 "timeout" "RttEstimate.timeout" (XL 22 4) .none .none (ms tsK 628) 383 ["self"] [] Xin:={}
theorem XqE:FB 391 "bounded" "RttEstimate.bounded" (XL 22 5) .none .none (ms tsK 628) 390 ["self","ticks"] [] W4:={}
theorem XqF:FB 412 "__init__" "SendQueue.__init__" (XL 24 0) .none .none (ms tsE 704) 411 ["self","room"] [] Xio:={}
theorem XqG:FB 419 "size" "SendQueue.size" (XL 24 1) .none .none (ms tsE 704) 418 ["self"] [] Xip:={}
theorem XqH:FB 426 "room_left" "SendQueue.room_left" (XL 24 2) .none .none (ms tsE 704) 425 ["self"] [] Xiq:={}
theorem XqI:FB 433 "put" "SendQueue.put" (XL 24 3) .none .none (ms tsE 704) 432 ["self","octets"] [] Xir:={}
theorem XqJ:FB 440 "part" "SendQueue.part" (XL 24 4) .none .none (ms tsE 704) 439 ["self","at","many"] [] Xis:={}
theorem XqK:FB 447 "drop" "SendQueue.drop" (XL 24 5) .none .none (ms tsE 704) 446 ["self","many"] [] Xit:={}
theorem XqL:FB 468 "__init__" "PeerWindow.__init__" (XL 26 0) .none .none (ms ZG 776) 467 ["self","ring"] [] Xiu:={}
theorem XqM:FB 475 "is_newer" "PeerWindow.is_newer" (XL 26 1) .none .none (ms ZG 776) 474 ["self","seq","ack"] [] Xiv:={}
theorem XqN:FB 482 "take" "PeerWindow.take" (XL 26 2) .none .none (ms ZG 776) 481 ["self","seq","ack","size"] [] Xiw:={}
theorem XqO:FB 503 "__init__" "Sender.__init__" (XL 27 0) .none .none (ms ZG 776) 502 ["self","iss","ring","mss","room"] [] Xix:={}
theorem XqP:FB 510 "window" "Sender.window" (XL 27 1) .none .none (ms ZG 776) 509 ["self"] [] Xiy:={}
theorem XqQ:FB 518 "take_window" "Sender.take_window" (XL 27 2) .none .none (ms ZG 776) 517 ["self","seq","ack","window"] [] Xiz:={}
theorem XqR:FB 525 "put" "Sender.put" (XL 27 3) .none .none (ms ZG 776) 524 ["self","octets"] [] XiA:={}
theorem XqS:FB 532 "ask_fin" "Sender.ask_fin" (XL 27 4) .none .none (ms ZG 776) 531 ["self"] [] XiB:={}
theorem XqT:FB 539 "flight" "Sender.flight" (XL 27 5) .none .none (ms ZG 776) 538 ["self"] [] XiC:={}
theorem XqU:FB 546 "usable" "Sender.usable" (XL 27 6) .none .none (ms ZG 776) 545 ["self","congestion_window"] [] XiD:={}
theorem XqV:FB 553 "data_sent" "Sender.data_sent" (XL 27 7) .none .none (ms ZG 776) 552 ["self"] [] XiE:={}
theorem XqW:FB 560 "unsent" "Sender.unsent" (XL 27 8) .none .none (ms ZG 776) 559 ["self"] [] XiF:={}
theorem XqX:FB 567 "is_fin_due" "Sender.is_fin_due" (XL 27 9) .none .none (ms ZG 776) 566 ["self"] [] XiG:={}
theorem XqY:FB 574 "is_fin_acked" "Sender.is_fin_acked" (XL 27 10) .none .none (ms ZG 776) 573 ["self"] [] XiH:={}
theorem XqZ:FB 588 "go_on" "Sender.go_on" (XL 27 12) .none .none (ms ZG 776) 587 ["self","many"] [] XiI:={}
theorem Xq0:FB 595 "start" "Sender.start" (XL 27 13) .none .none (ms ZG 776) 594 ["self"] [] XiJ:={}
theorem Xq1:FB 602 "may_go" "Sender.may_go" (XL 27 14) .none .none (ms ZG 776) 601 ["self","many","is_nagle"] [] XiK:={}
theorem Xq2:FB 610 "pieces" "Sender.pieces" (XL 27 15) (.ref 603) .none (ms ZG 776) 609 ["self","congestion_window","is_nagle"] [.bool true] XiL:={}
theorem Xq3:FB 617 "piece_of" "Sender.piece_of" (XL 27 16) .none .none (ms ZG 776) 616 ["self","many","congestion_window"] [] XiM:={}
theorem Xq4:FB 624 "ever_sent" "Sender.ever_sent" (XL 27 17) .none .none (ms ZG 776) 623 ["self"] [] XiN:={}
theorem Xq5:FB 631 "first_piece" "Sender.first_piece" (XL 27 18) .none .none (ms ZG 776) 630 ["self"] [] XiO:={}
theorem Xq6:FB 638 "reach" "Sender.reach" (XL 27 19) .none .none (ms ZG 776) 637 ["self","many"] [] XiP:={}
theorem Xq7:FB 645 "back_to" "Sender.back_to" (XL 27 20) .none .none (ms ZG 776) 644 ["self","seq"] [] XiQ:={}
theorem Xq8:FB 652 "is_idle_with_more" "Sender.is_idle_with_more" (XL 27 21) .none .none (ms ZG 776) 651 ["self"] [] XiR:={}
theorem Xq9:FB 659 "needs_probe" "Sender.needs_probe" (XL 27 22) .none .none (ms ZG 776) 658 ["self"] [] XiS:={}
theorem Xra:FB 666 "probe" "Sender.probe" (XL 27 23) .none .none (ms ZG 776) 665 ["self"] [] XiT:={}
theorem Xrb:FB 673 "acked" "Sender.acked" (XL 27 24) .none .none (ms ZG 776) 672 ["self","ack"] [] XiU:={}
theorem Xrc:FB 687 "put16" "put16" (Yk 29) .none .none (ms "thinstack.octets" 1072) 686 ["n"] [] XiV:={}
theorem Xrd:FB 702 "__init__" "Segment.__init__" (XL 37 0) (.ref 695) .none (ms tsM 1081) 701 ["self","source_port","target_port","seq","ack","flags","window","urgent","options","payload"] [.int 0 1107,.bytes #[] 1108,.bytes #[] 1109] XiW:={}
theorem Xre:FB 737 "check_number" "check_number" (Yk 38) .none .none (ms tsM 1081) 736 ["number","bits"] [] XiX:={}
theorem Xrf:FB 744 "mss_option" "mss_option" (Yk 39) .none .none (ms tsM 1081) 743 ["n"] [] XiY:={}
theorem Xm2:FB 751 "opening_steps" "opening_steps" (Yk 52) .none .none (ms tsH 1180) 750 [] [] XiZ:={}
theorem Xm3:FB 758 "closing_steps" "closing_steps" (Yk 53) .none .none (ms tsH 1180) 757 [] [] Xi0:={}
theorem Xm4:FB 765 "follow" "follow" (Yk 54) .none .none (ms tsH 1180) 764 ["state","event"] [] Xi1:={}
theorem Xrg:FB 772 "may_send" "may_send" (Yk 55) .none .none (ms tsH 1180) 771 ["state"] [] Xi2:={}
theorem Xrh:FB 779 "is_sending" "is_sending" (Yk 56) .none .none (ms tsH 1180) 778 ["state"] [] Xi3:={}
theorem Xri:FB 792 "__init__" "Wheel.__init__" (XL 58 0) (.ref 787) .none (ms BF 1239) 791 ["self","size"] [.int 16 1253] Xi4:={}
theorem Xrj:FB 799 "put" "Wheel.put" (XL 58 1) .none .none (ms BF 1239) 798 ["self","key","time"] [] Ka:={}
theorem Xrk:FB 806 "list_of" "Wheel.list_of" (XL 58 2) .none .none (ms BF 1239) 805 ["self","time"] [] Kb:={}
theorem Xrl:FB 813 "cancel" "Wheel.cancel" (XL 58 3) .none .none (ms BF 1239) 812 ["self","key"] [] O3:={}
theorem Xrm:FB 820 "time_of" "Wheel.time_of" (XL 58 4) .none .none (ms BF 1239) 819 ["self","key"] [] I0:={}
theorem Xrn:FB 832 "due" "Wheel.due" (XL 58 6) .none .none (ms BF 1239) 831 ["self","now"] [] I1:={}
theorem Xro:FB 839 "keys_until" "Wheel.keys_until" (XL 58 7) .none .none (ms BF 1239) 838 ["self","now"] [] I2:={}
theorem Xrp:FB 860 "__init__" "Limits.__init__" (XL 65 0) .none .none (ms tsF 1333) 859 ["self","ring","mss","send_room","receive_room","first_timeout","least_timeout","most_timeout","most_tries","ack_delay","time_wait"] [] Xi5:={}
theorem Xrq:FB 874 "clock_of" "clock_of" (Yk 66) .none .none (ms tsF 1333) 873 ["limits"] [] Xi6:={}
theorem Xrr:FB 888 "__init__" "Tcb.__init__" (XL 67 0) .none .none (ms tsF 1333) 887 ["self","limits","local","remote","iss"] [] Xi7:={}
theorem Xrs:FB 895 "window_now" "Tcb.window_now" (XL 67 1) .none .none (ms tsF 1333) 894 ["self"] [] Xi8:={}
theorem Xrt:FB 903 "make" "Tcb.make" (XL 67 2) (.ref 896) .none (ms tsF 1333) 902 ["self","flags","seq","payload"] [.bytes #[] 1430] Xi9:={}
theorem Xru:FB 917 "change_state" "change_state" (Yk 70) .none .none (ms UD 1466) 916 ["tcb","event"] [] Xja:={}
theorem Xrv:FB 924 "closed" "closed" (Yk 71) .none .none (ms UD 1466) 923 ["tcb","error"] [] Xjb:={}
theorem Xrw:FB 931 "check_error" "check_error" (Yk 72) .none .none (ms UD 1466) 930 ["tcb"] [] Xjc:={}
theorem Xrx:FB 938 "open_active" "open_active" (Yk 73) .none .none (ms UD 1466) 937 ["tcb","now"] [] Xjd:={}
theorem Xry:FB 945 "send" "send" (Yk 74) .none .none (ms UD 1466) 944 ["tcb","octets","now"] [] Xje:={}
theorem Xrz:FB 952 "close" "close" (Yk 75) .none .none (ms UD 1466) 951 ["tcb","now"] [] Xjf:={}
theorem XrA:FB 959 "ack_segment" "ack_segment" (Yk 76) .none .none (ms UD 1466) 958 ["tcb"] [] Xjg:={}
theorem XrB:FB 966 "syn_segment" "syn_segment" (Yk 77) .none .none (ms UD 1466) 965 ["tcb"] [] Xjh:={}
theorem XrC:FB 973 "flags_of" "flags_of" (Yk 78) .none .none (ms UD 1466) 972 ["has_push","has_fin"] [] Xji:={}
theorem XrD:FB 980 "take_asked_fin" "take_asked_fin" (Yk 79) .none .none (ms UD 1466) 979 ["tcb"] [] Xjj:={}
theorem XrE:FB 987 "data_segments" "data_segments" (Yk 80) .none .none (ms UD 1466) 986 ["tcb","now"] [] Xjk:={}
theorem XrF:FB 994 "output" "output" (Yk 81) .none .none (ms UD 1466) 993 ["tcb","now"] [] Xjl:={}
theorem XmH:FB 1001 "keep_timers" "keep_timers" (Yk 82) .none .none (ms UD 1466) 1000 ["tcb","now"] [] Xdi:={}
theorem XmI:FB 1008 "probe_wait" "probe_wait" (Yk 83) .none .none (ms UD 1466) 1007 ["tcb"] [] Xdj:={}
theorem XmJ:FB 1015 "on_time" "on_time" (Yk 84) .none .none (ms UD 1466) 1014 ["tcb","now"] [] Xdk:={}
theorem XmK:FB 1022 "sent_again" "sent_again" (Yk 85) .none .none (ms UD 1466) 1021 ["tcb","now"] [] Xdl:={}
theorem XmL:FB 1029 "segment_again" "segment_again" (Yk 86) .none .none (ms UD 1466) 1028 ["tcb"] [] Xdm:={}
theorem XmM:FB 1036 "probed" "probed" (Yk 87) .none .none (ms UD 1466) 1035 ["tcb","now"] [] Xdn:={}
theorem XmN:FB 1050 "__init__" "Assembly.__init__" (XL 89 0) .none .none (ms "thinstack.assembly" 1638) 1049 ["self","ring"] [] Xdo:={}
theorem Xm8(P:Rj):J9 (KF P) (fdO "__init__" "Receiver.__init__" (XL 91 0) (Value.ref 1140) (Value.none) (Value.str (QW tsG) 1791) (Value.ref 1146)) [QW "self",QW "irs",QW "ring",QW "room",QW "mss"] [Value.int 1 1805]:=by
 intro vs h1 h2 S
 have hl:vs.length=4∨vs.length=5:=by simp only [Qp,List.length_nil] at h1 h2;lia
 rcases hl with hl |hl
 ·refine x41 (XkZ hl) λx0 x1 x2 x3 zz1=>?_;subst zz1
  kernel_rfl
 ·refine x51 (Xsj hl) λx0 x1 x2 x3 x4 zz2=>?_;subst zz2
  kernel_rfl
theorem Xod(P:Rj):(KF P).lookup 1147=some (XjB P):=by kernel_rfl
theorem Xn7(P:Rj):codeIn (KF P) (Value.ref 1146) (QW "Receiver.__init__")=true:=by kernel_rfl
theorem XmO:FB 1154 "free_edge" "Receiver.free_edge" (XL 91 1) .none .none (ms tsG 1791) 1153 ["self"] [] Xdp:={}
theorem XmP:FB 1161 "should_tell" "Receiver.should_tell" (XL 91 2) .none .none (ms tsG 1791) 1160 ["self","mss"] [] Xdq:={}
theorem XmQ:FB 1168 "told_window" "Receiver.told_window" (XL 91 3) .none .none (ms tsG 1791) 1167 ["self"] [] Xdr:={}
theorem XmR:FB 1175 "window" "Receiver.window" (XL 91 4) .none .none (ms tsG 1791) 1174 ["self"] [] Xds:={}
theorem XmS:FB 1273 "_law_pool" "_law_pool" (Yk 93) .none .none (ms "law_pq1202_01" 1960) 1272 ["script","k"] [] MO:={}
theorem Xm9(P:Rj):J9 (KF P) (fdO "_law_pool" "_law_pool" (Yk 93) (Value.none) (Value.none) (Value.str (QW "law_pq1202_01") 1960) (Value.ref 1272)) [QW "script",QW "k"] []:=by
 intro vs h1 h2 S
 have hl:vs.length=2:=by simp only [Qp,List.length_nil] at h1 h2;lia
 refine x21 (Xsi hl) λx0 x1 zz3=>?_;subst zz3
 kernel_rfl
theorem Xoe(P:Rj):(KF P).lookup 1273=some (XjC P):=by kernel_rfl
theorem Xn8(P:Rj):codeIn (KF P) (Value.ref 1272) (QW "_law_pool")=true:=by kernel_rfl
theorem Xph:([QW "script",QW "k"]:List Str).map Nf=MO.params.map some:=by kernel_rfl
theorem Xpr:(KE (Yk 93).2.2&&(Z2 [QW "script",QW "k"]&&([QW "script",QW "k"]:List Str).all λx=>Jz (XC (Yk 93).2.2.names x)))=true:=by kernel_rfl
theorem XmT:FB 1280 "_law_take" "_law_take" (Yk 94) .none .none (ms "law_pq1202_01" 1960) 1279 ["source","top"] [] Wr:={}
theorem XmU:FB 1287 "_law_one" "_law_one" (Yk 95) .none .none (ms "law_pq1202_01" 1960) 1286 ["source","things"] [] IY:={}
theorem XmV:FB 1294 "_law_opened" "_law_opened" (Yk 96) .none .none (ms "law_pq1202_01" 1960) 1293 ["limits","window"] [] Xdt:={}
theorem XmW:FB 1301 "_law_wait" "_law_wait" (Yk 97) .none .none (ms "law_pq1202_01" 1960) 1300 ["limits","doubled"] [] IZ:={}
theorem XmX:FB 1308 "_law_is_begun_anew" "_law_is_begun_anew" (Yk 98) .none .none (ms "law_pq1202_01" 1960) 1307 ["tcb","flight"] [] Xdu:={}
theorem XmY:FB 1313 "_law_piece_right" "_law_piece_right" (Yk 99) .none .none (ms "law_pq1202_01" 1960) 1312 ["tcb","found","octets","has_fin"] [] Xdv:={}
theorem Xof(P:Rj):(KF P).lookup 1318=some (XjD P):=by kernel_rfl
theorem Xn9(P:Rj):codeIn (KF P) (Value.ref 1317) (QW "_law_tries_right")=true:=by kernel_rfl
theorem XmZ:FB 1325 "_law_next_right" "_law_next_right" (Yk 101) .none .none (ms "law_pq1202_01" 1960) 1324 ["limits","octets"] [] Xdw:={}
theorem Xm0:FB 1330 "_law_probes_right" "_law_probes_right" (Yk 102) .none .none (ms "law_pq1202_01" 1960) 1329 ["source","limits","octets"] [] Xdx:={}
theorem Xm1:FB 1335 "_law_late_right" "_law_late_right" (Yk 103) .none .none (ms "law_pq1202_01" 1960) 1334 [] [] Xdy:={}
theorem Xna(P:Rj):J9 (KF P) (fdO "_law_late_right" "_law_late_right" (Yk 103) (Value.none) (Value.none) (Value.str (QW "law_pq1202_01") 1960) (Value.ref 1334)) [] []:=by
 intro vs h1 h2 S
 have hl:vs.length=0:=by simp only [Qp,List.length_nil] at h1 h2;lia
 cases Xsg hl
 kernel_rfl
theorem Xog(P:Rj):(KF P).lookup 1335=some (XjE P):=by kernel_rfl
theorem Xoa(P:Rj):codeIn (KF P) (Value.ref 1334) (QW "_law_late_right")=true:=by kernel_rfl
theorem Xps:(KE (Yk 103).2.2&&(Z2 []&&([]:List Str).all λx=>Jz (XC (Yk 103).2.2.names x)))=true:=by kernel_rfl
theorem Xnb(P:Rj):J9 (KF P) (fdO "law" "law" (Yk 104) (Value.none) (Value.none) (Value.str (QW "law_pq1202_01") 1960) (Value.ref 1341)) [QW "script"] []:=by
 intro vs h1 h2 S
 have hl:vs.length=1:=by simp only [Qp,List.length_nil] at h1 h2;lia
 obtain ⟨x0,rfl⟩:=Xsh hl
 kernel_rfl
theorem Xoh(P:Rj):(KF P).lookup 1342=some (XjF P):=by kernel_rfl
theorem Xob(P:Rj):codeIn (KF P) (Value.ref 1341) (QW "law")=true:=by kernel_rfl
def Mg:BT X7:=
 (.node 666 (.node 440 (.node 279 (.node 146 (.node 110 (.node 96 (.leaf 96 XnS) (.node 103 (.leaf 103 Xh4) (.leaf 110 Xh5))) (.node 124 (.leaf 124 Xh6) (.node 138 (.leaf 138 Xh7) (.leaf 146 Xh8)))) (.node 195 (.node 167 (.leaf 167 Xh9) (.node 174 (.leaf 174 Xia) (.leaf 195 Xib))) (.node 216 (.node 202 (.leaf 202 Xic) (.leaf 216 Xid)) (.node 258 (.leaf 258 Xie) (.leaf 279 Xif))))) (.node 377 (.node 314 (.node 293 (.leaf 293 Xig) (.node 300 (.leaf 300 Xih) (.leaf 314 Xii))) (.node 335 (.node 328 (.leaf 328 Xij) (.leaf 335 Xik)) (.node 356 (.leaf 356 Xil) (.leaf 377 Xim)))) (.node 412 (.node 384 (.leaf 384 Xin) (.node 391 (.leaf 391 W4) (.leaf 412 Xio))) (.node 426 (.node 419 (.leaf 419 Xip) (.leaf 426 Xiq)) (.node 433 (.leaf 433 Xir) (.leaf 440 Xis)))))) (.node 560 (.node 510 (.node 475 (.node 447 (.leaf 447 Xit) (.node 468 (.leaf 468 Xiu) (.leaf 475 Xiv))) (.node 482 (.leaf 482 Xiw) (.node 503 (.leaf 503 Xix) (.leaf 510 Xiy)))) (.node 532 (.node 518 (.leaf 518 Xiz) (.node 525 (.leaf 525 XiA) (.leaf 532 XiB))) (.node 546 (.node 539 (.leaf 539 XiC) (.leaf 546 XiD)) (.node 553 (.leaf 553 XiE) (.leaf 560 XiF))))) (.node 617 (.node 588 (.node 567 (.leaf 567 XiG) (.node 574 (.leaf 574 XiH) (.leaf 588 XiI))) (.node 602 (.node 595 (.leaf 595 XiJ) (.leaf 602 XiK)) (.node 610 (.leaf 610 XiL) (.leaf 617 XiM)))) (.node 638 (.node 624 (.leaf 624 XiN) (.node 631 (.leaf 631 XiO) (.leaf 638 XiP))) (.node 652 (.node 645 (.leaf 645 XiQ) (.leaf 652 XiR)) (.node 659 (.leaf 659 XiS) (.leaf 666 XiT))))))) (.node 945 (.node 806 (.node 751 (.node 702 (.node 673 (.leaf 673 XiU) (.node 687 (.leaf 687 XiV) (.leaf 702 XiW))) (.node 737 (.leaf 737 XiX) (.node 744 (.leaf 744 XiY) (.leaf 751 XiZ)))) (.node 772 (.node 758 (.leaf 758 Xi0) (.node 765 (.leaf 765 Xi1) (.leaf 772 Xi2))) (.node 792 (.node 779 (.leaf 779 Xi3) (.leaf 792 Xi4)) (.node 799 (.leaf 799 Ka) (.leaf 806 Kb))))) (.node 888 (.node 832 (.node 813 (.leaf 813 O3) (.node 820 (.leaf 820 I0) (.leaf 832 I1))) (.node 860 (.node 839 (.leaf 839 I2) (.leaf 860 Xi5)) (.node 874 (.leaf 874 Xi6) (.leaf 888 Xi7)))) (.node 917 (.node 895 (.leaf 895 Xi8) (.node 903 (.leaf 903 Xi9) (.leaf 917 Xja))) (.node 931 (.node 924 (.leaf 924 Xjb) (.leaf 931 Xjc)) (.node 938 (.leaf 938 Xjd) (.leaf 945 Xje)))))) (.node 1050 (.node 994 (.node 966 (.node 952 (.leaf 952 Xjf) (.node 959 (.leaf 959 Xjg) (.leaf 966 Xjh))) (.node 980 (.node 973 (.leaf 973 Xji) (.leaf 980 Xjj)) (.node 987 (.leaf 987 Xjk) (.leaf 994 Xjl)))) (.node 1015 (.node 1001 (.leaf 1001 Xdi) (.node 1008 (.leaf 1008 Xdj) (.leaf 1015 Xdk))) (.node 1029 (.node 1022 (.leaf 1022 Xdl) (.leaf 1029 Xdm)) (.node 1036 (.leaf 1036 Xdn) (.leaf 1050 Xdo))))) (.node 1287 (.node 1168 (.node 1154 (.leaf 1154 Xdp) (.node 1161 (.leaf 1161 Xdq) (.leaf 1168 Xdr))) (.node 1273 (.node 1175 (.leaf 1175 Xds) (.leaf 1273 MO)) (.node 1280 (.leaf 1280 Wr) (.leaf 1287 IY)))) (.node 1308 (.node 1294 (.leaf 1294 Xdt) (.node 1301 (.leaf 1301 IZ) (.leaf 1308 Xdu))) (.node 1325 (.node 1313 (.leaf 1313 Xdv) (.leaf 1325 Xdw)) (.node 1330 (.leaf 1330 Xdx) (.leaf 1335 Xdy))))))))
def Xfv(p:α->Prop):List α->Prop
 | []=>True
 |a::r=>p a/\Xfv p r
theorem Xfv.mem{p:α->Prop}:∀{l:List α},Xfv p l->∀a∈l,p a
 |b::r,h,a,hm=>by
  rcases Qe hm with rfl |hm
  ·exact h.1
  ·exact h.2.mem a hm
def XhP(p:Nat×X7):Prop:=∃name qual A dV kV pm cd Pn dv,FB p.1 name qual A dV kV pm cd Pn dv p.2
theorem FB.g{a:Nat}{name qual:String}{A:Xfy}(h:FB a name qual A dV kV pm cd Pn dv fc):XhP (a,fc):=⟨_,_,_,_,_,_,_,_,_,h⟩
theorem XfA:Xfv XhP Mg.all:=⟨F96.g,Xqk.g,Xql.g,Xqm.g,Xqn.g,Xqo.g,Xqp.g,Xqq.g,Xqr.g,Xqs.g,Xqt.g,Xqu.g,Xqv.g,Xqw.g,Xqx.g,Xqy.g,Xqz.g,XqA.g,XqB.g,XqC.g,XqD.g,XqE.g,XqF.g,XqG.g,XqH.g,XqI.g,XqJ.g,XqK.g,XqL.g,XqM.g,XqN.g,XqO.g,XqP.g,XqQ.g,XqR.g,XqS.g,XqT.g,XqU.g,XqV.g,XqW.g,XqX.g,XqY.g,XqZ.g,Xq0.g,Xq1.g,Xq2.g,Xq3.g,Xq4.g,Xq5.g,Xq6.g,Xq7.g,Xq8.g,Xq9.g,Xra.g,Xrb.g,Xrc.g,Xrd.g,Xre.g,Xrf.g,Xm2.g,Xm3.g,Xm4.g,Xrg.g,Xrh.g,Xri.g,Xrj.g,Xrk.g,Xrl.g,Xrm.g,Xrn.g,Xro.g,Xrp.g,Xrq.g,Xrr.g,Xrs.g,Xrt.g,Xru.g,Xrv.g,Xrw.g,Xrx.g,Xry.g,Xrz.g,XrA.g,XrB.g,XrC.g,XrD.g,XrE.g,XrF.g,XmH.g,XmI.g,XmJ.g,XmK.g,XmL.g,XmM.g,XmN.g,XmO.g,XmP.g,XmQ.g,XmR.g,XmS.g,XmT.g,XmU.g,XmV.g,XmW.g,XmX.g,XmY.g,XmZ.g,Xm0.g,Xm1.g,trivial⟩
theorem Nu(O:C.Ok)(Ry:C.cellv=[])(hK:C.K=KF P):XhR C Mg.get:=by
 intro a fc h n cal hc
 obtain ⟨_,_,_,_,_,_,_,_,_,H⟩:=XfA.mem _ (BT.get_mem h)
 exact ⟨_,_,fx H O Ry hK n cal hc⟩
theorem Tr.get_lay_ne(h:j≠i):(Tr.lay f o i).get j=none:=by
 induction q:(Tr.lay f o i).get j with
 |none=>rfl
 |some x=>exact absurd (Tr.lay_get q).1 h
theorem Xjv{c:Nat}(h:2 * q + c + 1 < n * 2)(hc:1<=c):q + 1 < n:=by lia
theorem Tr.get_lay_eq:∀{f i:Nat},i + 1 < 2 ^ f->(Tr.lay f o i).get i=some o:=by
 intro f
 induction f with
 |zero=>exact λ{i} h=>absurd h (Nat.not_lt_of_ge (Nat.succ_le_succ (Rg i)))
 |succ f ih=>
  intro i
  rw[Nat.pow_succ]
  refine UY i (λ_=>rfl) (λq h=>?_) λq h=>?_
  ·rw[Tr.layO,Tr.getO];exact ih (Xjv h (by decide))
  ·rw[Tr.layE,Tr.getE];exact ih (Xjv h (by decide))
theorem Tr.get_set_ne:∀{t:Tr}{i j:Nat},j≠i->(t.set o i).get j=t.get j:=by
 intro t
 induction t with
 |nil=>exact λh=>Tr.get_lay_ne (f:=16) h
 |node v l r il ir=>
  intro i j
  refine UY i ?_ (λq=>?_) λq=>?_
  ·exact UY j (λh=>absurd rfl h) (λp _=>Tr.getO.trans Tr.getO.symm) λp _=>Tr.getE.trans Tr.getE.symm
  ·rw[Tr.setO]
   exact UY j (λ_=>rfl) (λp h=>(Tr.getO.trans (il λe=>h (by rw[e]))).trans Tr.getO.symm) λp _=>Tr.getE.trans Tr.getE.symm
  ·rw[Tr.setE]
   exact UY j (λ_=>rfl) (λp _=>Tr.getO.trans Tr.getO.symm) λp h=>(Tr.getE.trans (ir λe=>h (by rw[e]))).trans Tr.getE.symm
theorem XjW{c:Nat}(h:2 * q + c < 65535):q < 65535:=by lia
theorem Tr.get_set_eq:∀{t:Tr}{i:Nat},i < 65535->(t.set o i).get i=some o:=by
 intro t
 induction t with
 |nil=>exact λh=>Tr.get_lay_eq (f:=16) (Nat.succ_lt_succ h)
 |node v l r il ir=>
  intro i
  refine UY i (λ_=>rfl) (λq h=>?_) λq h=>?_
  ·rw[Tr.setO,Tr.getO];exact il (XjW h)
  ·rw[Tr.setE,Tr.getE];exact ir (XjW h)
theorem Xgo{s:St}{a b:Int}:eqV F s 0 (.int (Xn a)) (.int (Xn b))=some (decide (a=b)):=by
 show some (zz (a - b))=_
 rw[Xfu]
 congr 1
 by_cases h:a=b
 ·subst h;simp
 ·have:¬a - b=0:=by lia
  simp [h,this]
def XF(ks:List Int):List V:=ks.map λk=> .int (Xn k)
theorem Mp{s:St}{k:Int}:∀{ks:List Int},OU F s (.int (Xn k)) (XF ks)=some (decide (k∈ks)):=by
 intro ux
 induction ux with
 |nil=>
  exact rfl
 |cons a r ih=>
  show oc (eqV F s 0 (.int (Xn a)) (.int (Xn k))) none (λp=>oc (OU F s (.int (Xn k)) (XF r)) none λq=>some (p||q))=_
  rw[Xgo,ih]
  show some _=_
  congr 1
  rw[←Bool.decide_or]
  congr 1
  rw[List.mem_cons]
  exact propext ⟨λh=>h.elim (λh=> .inl h.symm) .inr,λh=>h.elim (λh=> .inl h.symm) .inr⟩
theorem N1:∀{ks:List Int},UF (XF ks)=true
 | []=>rfl
 |_::r=>N1 (ks:=r)
theorem XbT{k:Int}:∀{ks:List Int},k∈ks->Bs k (XF ks)=some (XF (ks.erase k)):=by
 intro ux
 induction ux with
 |nil=>
  intro h
  cases h
 |cons a r ih=>
  intro h
  show bc (decide (a=k)) (some (XF r)) (oc (Bs k (XF r)) none λl=>some (.int (Xn a)::l))=_
  by_cases e:a=k
  ·subst e
   rw[Qo rfl,List.erase_cons_head]
  ·rw[Qn e,List.erase_cons_tail (by simpa using e),ih ((Qe h).resolve_left λq=>e q.symm)]
   rfl
theorem JZ{l:List α}(h:l.length<=60000):XU l=true:=by
 show Nat.ble (Uy l) 60000=true
 rw[Y6]
 exact QD h
structure WE where
 key:Int
 id:Nat
 t:LI
 o:LI
 r:Nat
def Y2(es:List WE):List (Int×V):=es.map λe=>(e.key,.ref e.id)
def Y4(es:List WE)(p:Nat):List V:=XF ((es.filter λe=>e.r == p).map (·.key))
noncomputable abbrev Zu(rd:V)(gv:LI):List (Nat×V):=[(27,.int (Xn 16)),(107,.ref 2),(106,.ref 3),(105,.ref 4),(104,rd),(103,.int gv)]
structure RW(σ:St)(es:List WE)(rd:V)(gv:LI):Prop where
 h0:σ.h.get 0=some (.flds 842 (Zu rd gv))
 h1:σ.h.get 1=some (.inst 842 0)
 h2:σ.h.get 2=some (.list (J2 5 16))
 h3:σ.h.get 3=some (.list [])
 h4:σ.h.get 4=some (.idict (Y2 es))
 sl:∀p,p < 16->σ.h.get (5 + p)=some (.list (Y4 es p))
 tp:∀e∈es,σ.h.get e.id=some (.tup [.int e.t,.int e.o])
 ids:∀e∈es,21<=e.id/\e.id < σ.n
 nd:(es.map (·.key)).Nodup
 ndi:(es.map (·.id)).Nodup
 rs:∀e∈es,e.r < 16
 n1:21<=σ.n
 len:es.length<=100
theorem Dd{k:Int}:∀{es:List WE},k∉es.map (·.key)->Y8 (Y2 es) k=none:=by
 intro ux
 induction ux with
 |nil=>
  intro _
  exact rfl
 |cons e r ih=>
  intro h
  show bc (decide (e.key=k)) (some (V.ref e.id)) (Y8 (Y2 r) k)=_
  rw[Qn λq=>h (by rw[←q];exact Ql)]
  exact ih λq=>h (Qm _ q)
theorem UQ{e:WE}{post:List WE}:∀{pre:List WE},e.key∉pre.map (·.key)->Y8 (Y2 (pre++e::post)) e.key=some (.ref e.id):=by
 intro ux
 induction ux with
 |nil=>
  intro _
  show bc (decide (e.key=e.key)) (some (V.ref e.id)) (Y8 (Y2 post) e.key)=_
  rw[Qo rfl]
 |cons a r ih=>
  intro h
  show bc (decide (a.key=e.key)) (some (V.ref a.id)) (Y8 (Y2 (r++e::post)) e.key)=_
  rw[Qn λq=>h (by rw[←q];exact Ql)]
  exact ih λq=>h (Qm _ q)
theorem Xgh{e:WE}{post:List WE}:∀{pre:List WE},e.key∉pre.map (·.key)->Ij (Y2 (pre++e::post)) e.key=Y2 (pre++post):=by
 intro ux
 induction ux with
 |nil=>
  intro _
  show bc (decide (e.key=e.key)) (Y2 post) ((e.key,V.ref e.id)::Ij (Y2 post) e.key)=_
  rw[Qo rfl];rfl
 |cons a r ih=>
  intro h
  show bc (decide (a.key=e.key)) (Y2 (r++e::post)) ((a.key,V.ref a.id)::Ij (Y2 (r++e::post)) e.key)=_
  rw[Qn λq=>h (by rw[←q];exact Ql)]
  exact congrArg ((a.key,V.ref a.id)::·) (ih λq=>h (Qm _ q))
theorem Xe0{k:Int}:∀{es:List WE},k∉es.map (·.key)->Iq (Y2 es) k v=Y2 es++[(k,v)]:=by
 intro ux
 induction ux with
 |nil=>
  intro _
  exact rfl
 |cons e r ih=>
  intro h
  show bc (decide (e.key=k)) ((e.key,v)::Y2 r) ((e.key,V.ref e.id)::Iq (Y2 r) k v)=_
  rw[Qn λq=>h (by rw[←q];exact Ql)]
  exact congrArg ((e.key,V.ref e.id)::·) (ih λq=>h (Qm _ q))
theorem Nl:∀{n j r:Nat},r < n->Zn (J2 j n) r=some (.ref (j + r))
 | 0,_,_,h=>by lia
 |n + 1,j,0,_=>rfl
 |n + 1,j,r + 1,h=>by
  show bc (Nat.beq (r + 1) 0) (some (V.ref j)) (Zn (J2 (j + 1) n) (Nat.sub (r + 1) 1))=_
  have:Nat.sub (r + 1) 1=r:=rfl
  rw[Yl (Nat.succ_ne_zero r),this]
  show Zn (J2 (j + 1) n) r=_
  rw[Nl (Nat.lt_of_succ_lt_succ h)]
  congr 2;lia
abbrev XW(F:XA)(G:Oz):Mj:=⟨⟨Mg.get,Xr.get,842⟩,F,G,λ_ _ _=>none⟩
theorem RW.attr{es:List WE}(R:RW σ es rd gv)(hl:Xh l 9=some (.ref 1))(hn:Xh (Zu rd gv) n=some v):sA n k l σ= .ok v σ:=by
 show (YS (Xh l 9) σ).to .no (Kk k n)=_
 rw[hl]
 show MW k 1 n σ (σ.h.get 1)=_
 rw[R.h1]
 show MN k 1 n 842 σ (σ.h.get 0)=_
 rw[R.h0]
 show @Option.rec V (λ_=>Xu) (Oh k 1 n σ (k.cls 842)) (λv=> .ok v σ) (Xh (Zu rd gv) n)=_
 rw[hn]
theorem Xy(h:Xh l n=some v):Xb n k l σ= .ok v σ:=by
 show YS (Xh l n) σ=_
 rw[h]
theorem Xw{a b:MS}(h:a k l σ= .next l' σ'):Xd a b k l σ=b k l' σ':=by
 show (a k l σ).to (b k)=_
 rw[h]
theorem YV{a b:MS}(h:a k l σ= .ret v σ'):Xd a b k l σ= .ret v σ':=by
 show (a k l σ).to (b k)=_
 rw[h]
theorem JX{t:MB}{a b:MS}{c:Bool}(h:t k l σ= .ok c σ'):Yn t a b k l σ=bc c (a k l σ') (b k l σ'):=by
 show ZI.to (t k l σ) _ _=_
 rw[h]
theorem YE{o:Nat}{a b:M}{x y:V}{c:Bool}(h1:a k l σ= .ok x σ1)(h2:b k l σ1= .ok y σ2)(h3:Ux k.F o σ2 x y=some c):Xp o a b k l σ= .ok c σ2:=by
 show Xu.to (a k l σ) _ _=_
 rw[h1]
 show Xu.to (b k l σ1) _ _=_
 rw[h2]
 show NV (Ux k.F o σ2 x y) σ2=_
 rw[h3]
theorem YZ{o:Nat}{a b:M}{x y:LI}(h1:a k l σ= .ok (.int x) σ1)(h2:b k l σ1= .ok (.int y) σ2)(h3:ZD k.G o x y=some z):Xo o a b k l σ= .ok (.int z) σ2:=by
 show Xu.to (a k l σ) _ _=_
 rw[h1]
 show Xu.to (b k l σ1) _ _=_
 rw[h2]
 show oc (ZD k.G o x y) .no (λz=>Xu.ok (.int z) σ2)=_
 rw[h3]
theorem RW.slotE{es:List WE}(R:RW σ es rd gv){r:Nat}(hl:Xh l 9=some (.ref 1))(ht:Xh l n=some (.int T))(hm:ZD k.G 4 T (Xn 16)=some (Xn r))(hr:r < 16):
  Yv (sA 107) (Xo 4 (Xb n) (sA 27)) k l σ= .ok (.ref (5 + r)) σ:=by
 show Xu.to (sA 107 k l σ) _ _=_
 rw[R.attr hl (show Xh (Zu rd gv) 107=some (.ref 2) from rfl)]
 show Xu.to (Xo 4 (Xb n) (sA 27) k l σ) _ _=_
 rw[YZ (Xy ht) (R.attr hl (show Xh (Zu rd gv) 27=some (.int (Xn 16)) from rfl)) hm]
 show YS (Gs (Xn r) (σ.h.get 2)) σ=_
 rw[R.h2]
 show YS (bc (Nat.ble r 60000) (Zn (J2 5 16) r) none) σ=_
 rw[QD (by lia:r<=60000)]
 show YS (Zn (J2 5 16) r) σ=_
 rw[Nl hr]
section
variable {es:List WE}{key:Int}
theorem RW.has(R:RW σ es rd gv)(hl:Xh l 9=some (.ref 1))(hk:Xh l n=some (.int (Xn key))){b:Bool}(hb:(Y8 (Y2 es) key).isSome=b):Xp 8 (Xb n) (sA 105) k l σ= .ok b σ:=by
 refine YE (Xy hk) (R.attr hl (show Xh (Zu rd gv) 105=some (.ref 4) from rfl)) ?_
 show inO k.F σ (.int (Xn key)) (σ.h.get 4)=_
 rw[R.h4]
 show some ((Y8 (Y2 es) key).isSome)=_
 rw[hb]
theorem ZN{a:Nat}{args:List V}(hh:X.hook (.fn a) args σ=none)(hf:X.top.fn a=some fc)(hb:Jg fc.params args fc.dflts=some l):run X (j + 1) (.fn a) args σ=Ze (fc.body (Ik X (run X j)) l σ):=by
 show @Option.rec Xu (λ_=>Xu) (Zw X (run X j) args σ (X.top.fn a)) (λx=>x) (X.hook (.fn a) args σ)=_
 rw[hh,hf]
 show oc (Jg fc.params args fc.dflts) .no (λl=>Ze (fc.body (Ik X (run X j)) l σ))=_
 rw[hb]
theorem XdH:Mg.get 813=some O3:=rfl
theorem XkK:Mg.get 799=some Ka:=rfl
theorem XkL:Mg.get 806=some Kb:=rfl
theorem XdI:Mg.get 820=some I0:=rfl
theorem XkM:Mg.get 832=some I1:=rfl
theorem XdJ:Mg.get 839=some I2:=rfl
theorem Mz(R:RW σ es rd gv)(h:key∉es.map (·.key)):run (XW F G) (j + 1) (.fn 813) [.ref 1,.int (Xn key)] σ= .ok .none σ:=by
 rw[ZN rfl XdH rfl]
 generalize Ik (XW F G) (run (XW F G) j)=k
 have t1:Xp 8 (Xb 109) (sA 105) k [(9,.ref 1),(109,.int (Xn key))] σ= .ok false σ:=R.has rfl rfl (by rw[Dd h];rfl)
 have e:O3.body k [(9,.ref 1),(109,.int (Xn key))] σ= .next [(9,.ref 1),(109,.int (Xn key))] σ:=by
  refine (Xw ?_).trans rfl
  rw[JX t1];rfl
 rw[e];rfl
theorem WF{pre post:List WE}{e:WE}(hn:((pre++e::post).map (·.key)).Nodup){p:Nat}:(p≠e.r->Y4 (pre++e::post) p=Y4 (pre++post) p)/\(p=e.r->XF (((pre++e::post).filter λx=>x.r == p).map (·.key) |>.erase e.key)=Y4 (pre++post) p)/\(p=e.r->e.key∈((pre++e::post).filter λx=>x.r == p).map (·.key)):=by
 refine ⟨λh=>?_,λh=>?_,λh=>?_⟩
 ·have:(e.r == p)=false:=by simpa using λq=>h q.symm
  unfold Y4
  rw[List.filter_append,List.filter_append,QZ (by rw[this];decide)]
 ·subst h
  unfold Y4
  congr 1
  rw[List.filter_append,List.filter_append,Ra (by simp),QG,QG,QJ]
  have:e.key∉(pre.filter λx=>x.r == e.r).map (·.key):=by
   intro hm
   rw[QG,QJ] at hn
   have:=(List.nodup_append.mp hn).2.2 e.key ?_ e.key Ql
   ·exact this rfl
   ·refine YB (Qb hm) λx hx hk=>?_
    exact Qc ⟨x,(List.mem_filter.mp hx).1,hk⟩
  rw[List.erase_append_right _ this,List.erase_cons_head]
 ·subst h
  refine Qc ⟨e,List.mem_filter.mpr ⟨Qk _ Ql,by simp⟩,rfl⟩
theorem Yz:Xh (XM l n v) n=some v:=by rw[Zh,if_pos rfl]
theorem X8{m:Nat}(h:n≠m):Xh (XM l n v) m=Xh l m:=by rw[Zh,if_neg h]
theorem XbH{e:M}{as:ML}{vs:List V}{m:List (Int×V)}(h1:e k l σ= .ok (.ref i) σ1)(h2:σ1.h.get i=some (.idict m))(h3:as k l σ1= .ok vs σ2):Xi e n as k l σ=Iz i n vs σ2 (σ2.h.get i):=by
 show Xu.to (e k l σ) _ _=_
 rw[h1]
 show De k as n i l σ1 (σ1.h.get i)=_
 rw[h2]
 show Yj.to (as k l σ1) _ _=_
 rw[h3]
theorem NQ{e:M}{as:ML}{vs:List V}{m:List V}(h1:e k l σ= .ok (.ref i) σ1)(h2:σ1.h.get i=some (.list m))(h3:as k l σ1= .ok vs σ2):Xi e n as k l σ=WW i n vs σ2 (σ2.h.get i):=by
 show Xu.to (e k l σ) _ _=_
 rw[h1]
 show De k as n i l σ1 (σ1.h.get i)=_
 rw[h2]
 show Yj.to (as k l σ1) _ _=_
 rw[h3]
theorem XK{e:M}{r:ML}{vs:List V}(h1:e k l σ= .ok v σ1)(h2:r k l σ1= .ok vs σ2):Xa e r k l σ= .ok (v::vs) σ2:=by
 show Xu.to (e k l σ) _ _=_
 rw[h1]
 show Yj.to (r k l σ1) _ _=_
 rw[h2]
theorem GY{ks:List Int}(hk:Xh l 109=some (.int (Xn key)))(hl:Xh l 113=some (.ref i))(hi:σ.h.get i=some (.list (XF ks)))(hlen:ks.length<=100):
  Yn (Xp 8 (Xb 109) (Xb 113)) (Xd (Zb (Xi (Xb 113) 2 (Xa (Xb 109) Xe))) Xg) Xg k l σ= .next l (if key∈ks then σ.put i (.list (XF (ks.erase key))) else σ):=by
 have t1:Xp 8 (Xb 109) (Xb 113) k l σ= .ok (decide (key∈ks)) σ:=by
  refine YE (Xy hk) (Xy hl) ?_
  show inO k.F σ (.int (Xn key)) (σ.h.get i)=_
  rw[hi]
  exact Mp
 rw[JX t1]
 by_cases h:key∈ks
 ·rw[if_pos h,Qo h]
  refine (Xw (l':=l) (σ':=σ.put i (.list (XF (ks.erase key)))) ?_).trans rfl
  show Xu.to (Xi (Xb 113) 2 (Xa (Xb 109) Xe) k l σ) _ _=_
  rw[NQ (Xy hl) hi (XK (Xy hk) rfl),hi]
  show Xu.to (oc (bc (XU (XF ks)&&UF (XF ks)) (Bs key (XF ks)) none) .no λm=>Xu.ok .none (σ.put i (.list m))) _ _=_
  rw[JZ (by unfold XF;rw[Qs];lia),N1]
  show Xu.to (oc (Bs key (XF ks)) .no λm=>Xu.ok .none (σ.put i (.list m))) _ _=_
  rw[XbT h]
 ·rw[if_neg h,Qn h]
  rfl
theorem Yd(h:i < 65535):(σ.put i o).h.get i=some o:=Tr.get_set_eq h
theorem XV{i':Nat}(h:i'≠i):(σ.put i o).h.get i'=σ.h.get i':=Tr.get_set_ne h
end
section
variable {es:List WE}{key:Int}
theorem ZU{get:Option O->Option (List V)}{body:MS}{b:ZH}{l'':YG}{s s':St}(h1:get (s.h.get i)=some its)(h2:Zn its j=some v)(h3:b l v s=some l')(h4:body k l' s= .next l'' s'):
  X9 get body b k i (f + 1) j l s=X9 get body b k i f (j + 1) l'' s':=by
 show oc (get (s.h.get i)) Zk.no (λits=> @Option.rec V (λ_=>Zk) (.next l s) (λv=>oc (b l v s) .no λl=>(body k l s).to (X9 get body b k i f (j + 1))) (Zn its j))=_
 rw[h1]
 show @Option.rec V (λ_=>Zk) (.next l s) (λv=>oc (b l v s) .no λl=>(body k l s).to (X9 get body b k i f (j + 1))) (Zn its j)=_
 rw[h2]
 show oc (b l v s) Zk.no (λl=>(body k l s).to (X9 get body b k i f (j + 1)))=_
 rw[h3]
 show (body k l' s).to (X9 get body b k i f (j + 1))=_
 rw[h4]
theorem Ji{get:Option O->Option (List V)}{body:MS}{b:ZH}{s:St}(h1:get (s.h.get i)=some its)(h2:Zn its j=none):
  X9 get body b k i (f + 1) j l s= .next l s:=by
 show oc (get (s.h.get i)) Zk.no (λits=> @Option.rec V (λ_=>Zk) (.next l s) (λv=>oc (b l v s) .no λl=>(body k l s).to (X9 get body b k i f (j + 1))) (Zn its j))=_
 rw[h1]
 show @Option.rec V (λ_=>Zk) (.next l s) (λv=>oc (b l v s) .no λl=>(body k l s).to (X9 get body b k i f (j + 1))) (Zn its j)=_
 rw[h2]
theorem RW.turn{es es':List WE}{gv':LI}(R:RW σ es rd gv){r:Nat}(hn:σ.n<=σ'.n)(k0:∀i,i≠0->i≠4->i≠5 + r->i < σ.n->σ'.h.get i=σ.h.get i)(hr:r < 16)
  (g0:σ'.h.get 0=some (.flds 842 (Zu rd gv')))(g4:σ'.h.get 4=some (.idict (Y2 es')))(gr:σ'.h.get (5 + r)=some (.list (Y4 es' r)))(ho:∀p,p≠r->Y4 es' p=Y4 es p)
  (tp:∀e∈es',σ'.h.get e.id=some (.tup [.int e.t,.int e.o]))(ids:∀e∈es',21<=e.id/\e.id < σ'.n)(nd:(es'.map (·.key)).Nodup)(ndi:(es'.map (·.id)).Nodup)(rs:∀e∈es',e.r < 16)(len:es'.length<=100):RW σ' es' rd gv' where
 h0:=g0
 h1:=(k0 1 (by decide) (by decide) (by lia) (by have:=R.n1;lia)).trans R.h1
 h2:=(k0 2 (by decide) (by decide) (by lia) (by have:=R.n1;lia)).trans R.h2
 h3:=(k0 3 (by decide) (by decide) (by lia) (by have:=R.n1;lia)).trans R.h3
 h4:=g4
 sl p hp:=by
  by_cases h:p=r
  ·subst h;exact gr
  ·rw[k0 (5 + p) (by lia) (by lia) (by lia) (by have:=R.n1;lia),R.sl p hp,ho p h]
 tp:=tp
 ids:=ids
 nd:=nd
 ndi:=ndi
 rs:=rs
 n1:=QH R.n1 hn
 len:=len
theorem Dr{pre post:List WE}{e:WE}{f:WE->α}(h:((pre++e::post).map f).Nodup):((pre++post).map f).Nodup:=by
 refine List.Nodup.sublist (List.Sublist.map f ?_) h
 exact List.Sublist.append_left (List.sublist_cons_self e post) pre
theorem IE{pre post:List WE}{e x:WE}(h:x∈pre++post):x∈pre++e::post:=by
 rcases List.mem_append.mp h with h |h
 ·exact QK _ h
 ·exact Qk _ (Qm _ h)
theorem IG{pre post:List WE}{e:WE}(h:((pre++e::post).map (·.key)).Nodup):e.key∉pre.map (·.key):=by
 rw[QG,QJ] at h
 intro hm
 exact (List.nodup_append.mp h).2.2 _ hm _ Ql rfl
theorem Xa6{pre post:List WE}{e:WE}(R:RW σ (pre++e::post) rd gv)(hn:σ.n < 60000)(hm:ZD G 4 e.t (Xn 16)=some (Xn e.r)):
  ∃σ',run (XW F G) (j + 1) (.fn 813) [.ref 1,.int (Xn e.key)] σ= .ok .none σ'/\RW σ' (pre++post) rd gv/\σ'.n=σ.n + 1/\∀i,21<=i->i < σ.n->σ'.h.get i=σ.h.get i:=by
 have he:e∈pre++e::post:=Qk _ Ql
 have hr:=R.rs e he
 have hid:=R.ids e he
 have hn1:=R.n1
 have hpre:=IG R.nd
 rw[ZN rfl XdH rfl]
 generalize hk:Ik (XW F G) (run (XW F G) j)=k
 have hG:k.G=G:=by rw[←hk];rfl
 let l0:YG:=[(9,.ref 1),(109,.int (Xn e.key))]
 have t1:Xp 8 (Xb 109) (sA 105) k l0 σ= .ok true σ:=R.has rfl rfl (by rw[UQ hpre];rfl)
 let σ1:St:=σ.put 4 (.idict (Y2 (pre++post)))
 let l1:YG:=XM (XM l0 110 (.int e.t)) 114 (.int e.o)
 have a1:Xi (sA 105) 3 (Xa (Xb 109) Xe) k l0 σ= .ok (.ref e.id) σ1:=by
  rw[XbH (R.attr rfl (show Xh (Zu rd gv) 105=some (.ref 4) from rfl)) R.h4 (XK (Xy rfl) rfl),R.h4]
  show bc (XU (Y2 (pre++e::post))) (Xpk σ 4 (Y2 (pre++e::post)) e.key) .no=_
  rw[JZ (by unfold Y2;rw[Qs];have:=R.len;lia)]
  show oc (Y8 (Y2 (pre++e::post)) e.key) .no (λv=>Xu.ok v (σ.put 4 (.idict (Ij (Y2 (pre++e::post)) e.key))))=_
  rw[UQ hpre,Xgh hpre]
 have g1:∀i,i≠4->σ1.h.get i=σ.h.get i:=λi h=>XV h
 have s1:J3 [110,114] (Xi (sA 105) 3 (Xa (Xb 109) Xe)) k l0 σ= .next l1 σ1:=by
  show Xu.to (Xi (sA 105) 3 (Xa (Xb 109) Xe) k l0 σ) _ _=_
  rw[a1]
  show oc (It (σ1.h.get e.id)) Zk.no (λvs=>oc (Zp l0 [110,114] vs) .no λl=> .next l σ1)=_
  rw[g1 _ (by lia),R.tp e he]
  rfl
 let σ2:St:=⟨σ1.h.set (.tup [.ref 3,.ref (5 + e.r)]) σ1.n,Nat.add σ1.n 1⟩
 have R1:sA 106 k l1 σ1= .ok (.ref 3) σ1:=by
  show (YS (Xh l1 9) σ1).to .no (Kk k 106)=_
  rw[show Xh l1 9=some (.ref 1) from rfl]
  show MW k 1 106 σ1 (σ1.h.get 1)=_
  rw[g1 _ (by decide),R.h1]
  show MN k 1 106 842 σ1 (σ1.h.get 0)=_
  rw[g1 _ (by decide),R.h0]
  rfl
 have R2:Yv (sA 107) (Xo 4 (Xb 110) (sA 27)) k l1 σ1= .ok (.ref (5 + e.r)) σ1:=by
  have at_:∀n v,Xh (Zu rd gv) n=some v->sA n k l1 σ1= .ok v σ1:=λn v hv=>by
   show (YS (Xh l1 9) σ1).to .no (Kk k n)=_
   rw[show Xh l1 9=some (.ref 1) from rfl]
   show MW k 1 n σ1 (σ1.h.get 1)=_
   rw[g1 _ (by decide),R.h1]
   show MN k 1 n 842 σ1 (σ1.h.get 0)=_
   rw[g1 _ (by decide),R.h0]
   show @Option.rec V (λ_=>Xu) (Oh k 1 n σ1 (k.cls 842)) (λv=> .ok v σ1) (Xh (Zu rd gv) n)=_
   rw[hv]
  show Xu.to (sA 107 k l1 σ1) _ _=_
  rw[at_ 107 (.ref 2) rfl]
  show Xu.to (Xo 4 (Xb 110) (sA 27) k l1 σ1) _ _=_
  rw[YZ (Xy (show Xh l1 110=some (.int e.t) from rfl)) (at_ 27 (.int (Xn 16)) rfl) (by rw[hG];exact hm)]
  show YS (Gs (Xn e.r) (σ1.h.get 2)) σ1=_
  rw[g1 _ (by decide),R.h2]
  show YS (bc (Nat.ble e.r 60000) (Zn (J2 5 16) e.r) none) σ1=_
  rw[QD (by lia:e.r<=60000)]
  show YS (Zn (J2 5 16) e.r) σ1=_
  rw[Nl hr]
 have g2:∀i,i≠σ.n->σ2.h.get i=σ1.h.get i:=λi h=>Tr.get_set_ne h
 have g2n:σ2.h.get σ.n=some (.tup [.ref 3,.ref (5 + e.r)]):=Tr.get_set_eq (show σ.n < 65535 by lia)
 let ks:List Int:=((pre++e::post).filter λx=>x.r == e.r).map (·.key)
 have hks:e.key∈ks:=(WF R.nd (p:=e.r)).2.2 rfl
 have gs:σ2.h.get (5 + e.r)=some (.list (XF ks)):=by rw[g2 _ (by lia),g1 _ (by lia)];exact R.sl e.r hr
 let σ3:St:=σ2.put (5 + e.r) (.list (XF (ks.erase e.key)))
 let l2:YG:=XM l1 113 (.ref 3)
 let l3:YG:=XM l2 113 (.ref (5 + e.r))
 have g3:∀i,i≠5 + e.r->σ3.h.get i=σ2.h.get i:=λi h=>XV h
 have s2:Ip (Yh 113) (Yg (Xa (sA 106) (Xa (Yv (sA 107) (Xo 4 (Xb 110) (sA 27))) Xe))) (Xd (Yn (Xp 8 (Xb 109) (Xb 113)) (Xd (Zb (Xi (Xb 113) 2 (Xa (Xb 109) Xe))) Xg) Xg) Xg) k l1 σ1= .next l3 σ3:=by
  show Xu.to (Yg _ k l1 σ1) _ _=_
  have:Yg (Xa (sA 106) (Xa (Yv (sA 107) (Xo 4 (Xb 110) (sA 27))) Xe)) k l1 σ1= .ok (.ref σ.n) σ2:=by
   show Yj.to (Xa (sA 106) (Xa (Yv (sA 107) (Xo 4 (Xb 110) (sA 27))) Xe) k l1 σ1) _ _=_
   rw[XK R1 (XK R2 rfl)]
   rfl
  rw[this]
  show Xbn _ (Yh 113) k σ.n l1 σ2 (σ2.h.get σ.n)=_
  rw[g2n]
  show X9 It _ (Yh 113) k σ.n 64 0 l1 σ2=_
  rw[ZU (its:=[.ref 3,.ref (5 + e.r)]) (v:= .ref 3) (l':=l2) (l'':=l2) (s':=σ2) (by rw[g2n];rfl) rfl rfl ?_]
  ·rw[ZU (its:=[.ref 3,.ref (5 + e.r)]) (v:= .ref (5 + e.r)) (l':=l3) (l'':=l3) (s':=σ3) (by rw[g2n];rfl) rfl rfl ?_]
   ·refine Ji (its:=[.ref 3,.ref (5 + e.r)]) ?_ rfl
    rw[g3 _ (by lia),g2n];rfl
   ·refine (Xw (GY (key:=e.key) (i:=5 + e.r) (ks:=ks) rfl rfl gs ?_)).trans ?_
    ·show (List.map _ (List.filter _ _)).length<=100
     rw[Qs]
     exact QH (QT _ _) R.len
    ·rw[if_pos hks];rfl
  ·refine (Xw (GY (key:=e.key) (i:=3) (ks:=[]) rfl rfl ?_ (by decide))).trans rfl
   rw[g2 _ (by lia),g1 _ (by decide),R.h3];rfl
 refine ⟨σ3,?_,?_,rfl,λi h1 h2=>by rw[g3 _ (by lia),g2 _ (by lia),g1 _ (by lia)]⟩
 ·have body:O3.body k l0 σ= .next l3 σ3:=by
   refine (Xw (l':=l3) (σ':=σ3) ?_).trans rfl
   rw[JX t1]
   exact (Xw s1).trans ((Xw s2).trans rfl)
  show Ze (O3.body k l0 σ)=_
  rw[body];rfl
 ·refine R.turn (r:=e.r) (Nat.le_succ _) (λi h0 h4 hr' hi=>?_) hr ?_ ?_ ?_ (λp hp=>((WF R.nd).1 hp).symm) (λx hx=>?_) (λx hx=>?_) (Dr R.nd) (Dr R.ndi) (λx hx=>R.rs x (IE hx)) ?_
  ·rw[g3 _ hr',g2 _ (by lia),g1 _ h4]
  ·rw[g3 _ (by lia),g2 _ (by lia),g1 _ (by decide)];exact R.h0
  ·rw[g3 _ (by lia),g2 _ (by lia)];exact Yd (by decide)
  ·rw[Yd (by lia),(WF R.nd).2.1 rfl]
  ·have:=R.ids x (IE hx)
   rw[g3 _ (by lia),g2 _ (by lia),g1 _ (by lia)]
   exact R.tp x (IE hx)
  ·have:=R.ids x (IE hx)
   exact ⟨this.1,Nat.lt_succ_of_lt this.2⟩
  ·have:=R.len
   rw[Qw,Qp] at this
   rw[Qw];lia
end
section
variable {es:List WE}{key:Int}
theorem Wq{es:List WE}(h:key∉es.map (·.key)):es.filter (λx=>x.key != key)=es:=by
 rw[List.filter_eq_self]
 intro x hx
 have:x.key≠key:=λq=>h (by rw[←q];exact Qc ⟨x,hx,rfl⟩)
 simpa using this
theorem Xbj{pre post:List WE}{e:WE}(h:((pre++e::post).map (·.key)).Nodup):(pre++e::post).filter (λx=>x.key != e.key)=pre++post:=by
 have h1:=IG h
 have h2:e.key∉post.map (·.key):=by
  rw[QG,QJ] at h
  exact (List.nodup_cons.mp (List.nodup_append.mp h).2.1).1
 rw[List.filter_append,QZ (by simp),Wq h1,Wq h2]
theorem Wp(R:RW σ es rd gv)(hn:σ.n < 60000)(hm:∀e∈es,e.key=key->ZD G 4 e.t (Xn 16)=some (Xn e.r)):
  ∃σ',run (XW F G) (j + 1) (.fn 813) [.ref 1,.int (Xn key)] σ= .ok .none σ'/\RW σ' (es.filter λx=>x.key != key) rd gv/\σ.n<=σ'.n/\σ'.n<=σ.n + 1/\∀i,21<=i->i < σ.n->σ'.h.get i=σ.h.get i:=by
 by_cases h:key∈es.map (·.key)
 ·refine YB (Qb h) λe he zz1=>?_;subst zz1
  refine x21 (List.append_of_mem he) λpre post zz2=>?_;subst zz2
  refine x14 (Xa6 (j:=j) (F:=F) R hn (hm e he rfl)) λσ' h1 h2 h3 h4=>?_
  rw[Xbj R.nd]
  exact ⟨σ',h1,h2,by lia,by lia,h4⟩
 ·rw[Wq h]
  exact ⟨σ,Mz R h,R,QS _,Nat.le_succ _,λ_ _ _=>rfl⟩
structure BW(σ:St)(rd:V)(gv:LI):Prop where
 h0:σ.h.get 0=some (.flds 842 (Zu rd gv))
 h1:σ.h.get 1=some (.inst 842 0)
 h2:σ.h.get 2=some (.list (J2 5 16))
 h3:σ.h.get 3=some (.list [])
theorem RW.b(R:RW σ es rd gv):BW σ rd gv:=⟨R.h0,R.h1,R.h2,R.h3⟩
theorem BW.attr(R:BW σ rd gv)(hl:Xh l 9=some (.ref 1))(hn:Xh (Zu rd gv) n=some v):sA n k l σ= .ok v σ:=by
 show (YS (Xh l 9) σ).to .no (Kk k n)=_
 rw[hl]
 show MW k 1 n σ (σ.h.get 1)=_
 rw[R.h1]
 show MN k 1 n 842 σ (σ.h.get 0)=_
 rw[R.h0]
 show @Option.rec V (λ_=>Xu) (Oh k 1 n σ (k.cls 842)) (λv=> .ok v σ) (Xh (Zu rd gv) n)=_
 rw[hn]
theorem BW.slotE(R:BW σ rd gv){r:Nat}(hl:Xh l 9=some (.ref 1))(ht:Xh l n=some (.int T))(hm:ZD k.G 4 T (Xn 16)=some (Xn r))(hr:r < 16):
  Yv (sA 107) (Xo 4 (Xb n) (sA 27)) k l σ= .ok (.ref (5 + r)) σ:=by
 show Xu.to (sA 107 k l σ) _ _=_
 rw[R.attr hl (show Xh (Zu rd gv) 107=some (.ref 2) from rfl)]
 show Xu.to (Xo 4 (Xb n) (sA 27) k l σ) _ _=_
 rw[YZ (Xy ht) (R.attr hl (show Xh (Zu rd gv) 27=some (.int (Xn 16)) from rfl)) hm]
 show YS (Gs (Xn r) (σ.h.get 2)) σ=_
 rw[R.h2]
 show YS (bc (Nat.ble r 60000) (Zn (J2 5 16) r) none) σ=_
 rw[QD (by lia:r<=60000)]
 show YS (Zn (J2 5 16) r) σ=_
 rw[Nl hr]
theorem BW.meth(R:BW σ rd gv)(hk:k.cls=Xr.get){a:Nat}{as:ML}{vs:List V}(hl:Xh l 9=some (.ref 1))(hf:IF n (some (.flds 842 (Zu rd gv)))=true)(ha:Xh Jx.meths n=some a)(h3:as k l σ= .ok vs σ1):
  Xi (Xb 9) n as k l σ=k.call (.fn a) (.ref 1::vs) σ1:=by
 show (YS (Xh l 9) σ).to .no (Xjy k as n l)=_
 rw[hl]
 show De k as n 1 l σ (σ.h.get 1)=_
 rw[R.h1]
 show bc (IF n (σ.h.get 0)) (Uk k as n 1 l σ (k.cls 842)) .no=_
 rw[R.h0,hf,hk]
 show Uk k as n 1 l σ (some Jx)=_
 show oc (Xh Jx.meths n) Xu.no (λa=>(as k l σ).to .no λvs s=>k.call (.fn a) (.ref 1::vs) s)=_
 rw[ha]
 show Yj.to (as k l σ) _ _=_
 rw[h3]
def Mn(F:XA)(rd:V)(T:LI):Prop:=rd= .none∨∃z,rd= .int z/\JP F T z=some false
theorem M6(R:BW σ rd gv){r:Nat}(hm:ZD G 4 T (Xn 16)=some (Xn r))(hr:r < 16)(ha:Mn F rd T):run (XW F G) (j + 1) (.fn 806) [.ref 1,.int T] σ= .ok (.ref (5 + r)) σ:=by
 rw[ZN rfl XkL rfl]
 generalize hk:Ik (XW F G) (run (XW F G) j)=k
 have hG:k.G=G:=by rw[←hk];rfl
 have hF:k.F=F:=by rw[←hk];rfl
 let l:YG:=[(9,.ref 1),(110,.int T)]
 have t1:Op (Xp 7 (sA 104) XD) (Xp 3 (Xb 110) (sA 104)) k l σ= .ok false σ:=by
  show ZI.to (Xp 7 (sA 104) XD k l σ) _ _=_
  rcases ha with rfl |⟨z,rfl,hz⟩
  ·rw[YE (c:=false) (R.attr rfl rfl) (show XD k l σ= .ok .none σ from rfl) rfl]
  ·rw[YE (c:=true) (R.attr (v:= .int z) rfl rfl) (show XD k l σ= .ok .none σ from rfl) rfl]
   show Xp 3 (Xb 110) (sA 104) k l σ=_
   refine YE (Xy (show Xh l 110=some (.int T) from rfl)) (R.attr (v:= .int z) rfl rfl) ?_
   show JP k.F T z=_
   rw[hF];exact hz
 have e:Kb.body k l σ= .ret (.ref (5 + r)) σ:=by
  refine (Xw (l':=l) (σ':=σ) ?_).trans ?_
  ·rw[JX t1];rfl
  ·refine (YV ?_)
   show Xu.to (Yv (sA 107) (Xo 4 (Xb 110) (sA 27)) k l σ) _ _=_
   rw[R.slotE rfl rfl (by rw[hG];exact hm) hr]
 show Ze (Kb.body k l σ)=_
 rw[e];rfl
theorem BC(R:RW σ es rd gv)(h:key∉es.map (·.key)):run (XW F G) (j + 1) (.fn 820) [.ref 1,.int (Xn key)] σ= .ok .none σ:=by
 rw[ZN rfl XdI rfl]
 generalize Ik (XW F G) (run (XW F G) j)=k
 let l:YG:=[(9,.ref 1),(109,.int (Xn key))]
 have t1:Xp 8 (Xb 109) (sA 105) k l σ= .ok false σ:=R.has rfl rfl (by rw[Dd h];rfl)
 have e:I0.body k l σ= .ret .none σ:=by
  refine YV ?_
  show Xu.to (Jt _ _ _ k l σ) _ _=_
  have:Jt (Xp 8 (Xb 109) (sA 105)) (Yv (Yv (sA 105) (Xb 109)) (Xf 0)) XD k l σ= .ok .none σ:=by
   show ZI.to (Xp 8 (Xb 109) (sA 105) k l σ) _ _=_
   rw[t1];rfl
  rw[this]
 show Ze (I0.body k l σ)=_
 rw[e];rfl
theorem Xb4{pre post:List WE}{e:WE}(R:RW σ (pre++e::post) rd gv):run (XW F G) (j + 1) (.fn 820) [.ref 1,.int (Xn e.key)] σ= .ok (.int e.t) σ:=by
 have he:e∈pre++e::post:=Qk _ Ql
 have hpre:=IG R.nd
 rw[ZN rfl XdI rfl]
 generalize Ik (XW F G) (run (XW F G) j)=k
 let l:YG:=[(9,.ref 1),(109,.int (Xn e.key))]
 have t1:Xp 8 (Xb 109) (sA 105) k l σ= .ok true σ:=R.has rfl rfl (by rw[UQ hpre];rfl)
 have s1:Yv (sA 105) (Xb 109) k l σ= .ok (.ref e.id) σ:=by
  show Xu.to (sA 105 k l σ) _ _=_
  rw[R.attr rfl (show Xh (Zu rd gv) 105=some (.ref 4) from rfl)]
  show YS (Gs (Xn e.key) (σ.h.get 4)) σ=_
  rw[R.h4]
  show YS (Y8 (Y2 (pre++e::post)) e.key) σ=_
  rw[UQ hpre]
 have b:I0.body k l σ= .ret (.int e.t) σ:=by
  refine YV ?_
  show Xu.to (Jt _ _ _ k l σ) _ _=_
  have:Jt (Xp 8 (Xb 109) (sA 105)) (Yv (Yv (sA 105) (Xb 109)) (Xf 0)) XD k l σ= .ok (.int e.t) σ:=by
   show ZI.to (Xp 8 (Xb 109) (sA 105) k l σ) _ _=_
   rw[t1]
   show Xu.to (Yv (sA 105) (Xb 109) k l σ) _ _=_
   rw[s1]
   show YS (Gs ⟨0,[]⟩ (σ.h.get e.id)) σ=_
   rw[R.tp e he];rfl
  rw[this]
 show Ze (I0.body k l σ)=_
 rw[b];rfl
theorem Om{es:List WE}{e:WE}{p:Nat}:Y4 (es++[e]) p=Y4 es p++(if e.r=p then [.int (Xn e.key)] else []):=by
 unfold Y4 XF
 rw[List.filter_append,QG,QG]
 congr 1
 by_cases h:e.r=p
 ·rw[if_pos h,Ra (by simpa using h)];rfl
 ·rw[if_neg h,QZ (by simpa using h)];rfl
theorem OV{m:List V}(h:XU m=true):WW i 0 [v] σ (some (.list m))= .ok .none (σ.put i (.list (m++[v]))):=by
 show bc (XU m) (Xu.ok .none (σ.put i (.list (m++[v])))) .no=_
 rw[h]
theorem Bv{es:List WE}{p:Nat}(h:es.length<=60000):(Y4 es p).length<=60000:=by
 unfold Y4 XF
 rw[Qs,Qs]
 exact QH (QT _ _) h
theorem Xhn(R:RW σ es rd gv)(hn:σ.n < 50000)(hlen:es.length < 90){r:Nat}(hm:∀e∈es,e.key=key->ZD G 4 e.t (Xn 16)=some (Xn e.r))(hT:ZD G 4 T (Xn 16)=some (Xn r))(hr:r < 16)(ha:Mn F rd T):
  ∃σ' id,run (XW F G) (j + 2) (.fn 799) [.ref 1,.int (Xn key),.int T] σ= .ok .none σ'/\RW σ' ((es.filter λx=>x.key != key)++[⟨key,id,T,gv.add ⟨1,[]⟩,r⟩]) rd (gv.add ⟨1,[]⟩)/\σ.n<=σ'.n/\σ'.n<=σ.n + 2:=by
 refine x15 (Wp (j:=j) (F:=F) R (by lia) hm) λσ1 c1 R1 c2 c3 _=>?_
 generalize hes:(es.filter λx=>x.key != key)=es1 at R1 ⊢
 have hout:key∉es1.map (·.key):=by
  rw[←hes]
  intro h
  refine YB (Qb h) λx hx q=>?_
  have:=(List.mem_filter.mp hx).2
  rw[q] at this
  simp at this
 have hlen1:es1.length < 90:=by rw[←hes];exact Nat.lt_of_le_of_lt (QT _ _) hlen
 have hn1:=R1.n1
 rw[ZN rfl XkK rfl]
 generalize hk:Ik (XW F G) (run (XW F G) (j + 1))=k
 have hG:k.G=G:=by rw[←hk];rfl
 have hF:k.F=F:=by rw[←hk];rfl
 have hC:k.cls=Xr.get:=by rw[←hk];rfl
 have hc:k.call=run (XW F G) (j + 1):=by rw[←hk];rfl
 let l:YG:=[(9,.ref 1),(109,.int (Xn key)),(110,.int T)]
 have s1:Zb (Xi (Xb 9) 112 (Xa (Xb 109) Xe)) k l σ= .next l σ1:=by
  show Xu.to (Xi (Xb 9) 112 (Xa (Xb 109) Xe) k l σ) _ _=_
  rw[R.b.meth hC rfl rfl (show Xh Jx.meths 112=some 813 from rfl) (XK (Xy rfl) rfl),hc,c1]
 let gw:=gv.add ⟨1,[]⟩
 let σ2:St:=σ1.put 0 (.flds 842 (Zu rd gw))
 have g2:∀i,i≠0->σ2.h.get i=σ1.h.get i:=λi h=>XV h
 have s2:Xl (Xb 9) 103 (Xo 0 (sA 103) (Xf 1)) k l σ1= .next l σ2:=by
  show Xu.to (Xo 0 (sA 103) (Xf 1) k l σ1) _ _=_
  rw[YZ (R1.b.attr rfl (show Xh (Zu rd gv) 103=some (.int gv) from rfl)) (show Xf 1 k l σ1= .ok (.int ⟨1,[]⟩) σ1 from rfl) (show ZD k.G 0 gv ⟨1,[]⟩=some gw from rfl)]
  show XbX k l 103 (.int gw) σ1 (σ1.h.get 1)=_
  rw[R1.h1]
  show XbW k l 103 (.int gw) σ1 842 0 (σ1.h.get 0)=_
  rw[R1.h0]
  show oc (k.cls 842) Zk.no (λcl=>bc (WX cl.mask 103) (.next l (σ1.put 0 (.flds 842 (XM (Zu rd gv) 103 (.int gw))))) .no)=_
  rw[hC]
  rfl
 have B2:BW σ2 rd gw:=⟨Yd (by decide),(g2 1 (by decide)).trans R1.h1,(g2 2 (by decide)).trans R1.h2,(g2 3 (by decide)).trans R1.h3⟩
 let σ3:St:=⟨σ2.h.set (.tup [.int T,.int gw]) σ2.n,Nat.add σ2.n 1⟩
 have g3:∀i,i≠σ1.n->σ3.h.get i=σ2.h.get i:=λi h=>Tr.get_set_ne h
 let σ4:St:=σ3.put 4 (.idict (Y2 es1++[(key,.ref σ1.n)]))
 have g4:∀i,i≠4->σ4.h.get i=σ3.h.get i:=λi h=>XV h
 have s3:N8 (sA 105) (Xb 109) (Yg (Xa (Xb 110) (Xa (sA 103) Xe))) k l σ2= .next l σ4:=by
  show Xu.to (Yg (Xa (Xb 110) (Xa (sA 103) Xe)) k l σ2) _ _=_
  have:Yg (Xa (Xb 110) (Xa (sA 103) Xe)) k l σ2= .ok (.ref σ1.n) σ3:=by
   show Yj.to (Xa (Xb 110) (Xa (sA 103) Xe) k l σ2) _ _=_
   rw[XK (Xy (show Xh l 110=some (.int T) from rfl)) (XK (B2.attr rfl (show Xh (Zu rd gw) 103=some (.int gw) from rfl)) rfl)]
   rfl
  rw[this]
  have B3:BW σ3 rd gw:=⟨(g3 0 (by lia)).trans B2.h0,(g3 1 (by lia)).trans B2.h1,(g3 2 (by lia)).trans B2.h2,(g3 3 (by lia)).trans B2.h3⟩
  show Xu.to (sA 105 k l σ3) _ _=_
  rw[B3.attr rfl (show Xh (Zu rd gw) 105=some (.ref 4) from rfl)]
  show Xls l 4 key (.ref σ1.n) σ3 (σ3.h.get 4)=_
  rw[g3 4 (by lia),g2 4 (by decide),R1.h4]
  show bc (XU (Y2 es1)) (Zk.next l (σ3.put 4 (.idict (Iq (Y2 es1) key (.ref σ1.n))))) .no=_
  rw[JZ (by unfold Y2;rw[Qs];lia),Xe0 hout]
 have B4:BW σ4 rd gw:=⟨(g4 0 (by decide)).trans ((g3 0 (by lia)).trans B2.h0),(g4 1 (by decide)).trans ((g3 1 (by lia)).trans B2.h1),(g4 2 (by decide)).trans ((g3 2 (by lia)).trans B2.h2),(g4 3 (by decide)).trans ((g3 3 (by lia)).trans B2.h3)⟩
 have gr:σ4.h.get (5 + r)=some (.list (Y4 es1 r)):=by rw[g4 _ (by lia),g3 _ (by lia),g2 _ (by lia)];exact R1.sl r hr
 let σ5:St:=σ4.put (5 + r) (.list (Y4 es1 r++[.int (Xn key)]))
 have g5:∀i,i≠5 + r->σ5.h.get i=σ4.h.get i:=λi h=>XV h
 have s4:Zb (Xi (Xi (Xb 9) 111 (Xa (Xb 110) Xe)) 0 (Xa (Xb 109) Xe)) k l σ4= .next l σ5:=by
  have m1:Xi (Xb 9) 111 (Xa (Xb 110) Xe) k l σ4= .ok (.ref (5 + r)) σ4:=by
   rw[B4.meth hC rfl rfl (show Xh Jx.meths 111=some 806 from rfl) (XK (Xy (show Xh l 110=some (.int T) from rfl)) rfl),hc]
   exact M6 B4 hT hr ha
  show Xu.to (Xi (Xi (Xb 9) 111 (Xa (Xb 110) Xe)) 0 (Xa (Xb 109) Xe) k l σ4) _ _=_
  rw[NQ m1 gr (XK (Xy (show Xh l 109=some (.int (Xn key)) from rfl)) rfl),gr]
  rw[OV (JZ (Bv (by lia)))]
 have b:Ka.body k l σ= .next l σ5:=(Xw s1).trans ((Xw s2).trans ((Xw s3).trans ((Xw s4).trans rfl)))
 refine ⟨σ5,σ1.n,?_,?_,?_,?_⟩
 ·show Ze (Ka.body k l σ)=_
  rw[b];rfl
 ·have hmem:∀x∈es1++[(⟨key,σ1.n,T,gw,r⟩:WE)],x∈es1∨x=⟨key,σ1.n,T,gw,r⟩:=λx hx=>by
   rcases List.mem_append.mp hx with h |h
   ·exact .inl h
   ·exact .inr (List.mem_singleton.mp h)
  refine R1.turn (r:=r) (Nat.le_succ _) (λi h0 h4 hr' hi=>?_) hr ?_ ?_ ?_ (λp hp=>?_) (λx hx=>?_) (λx hx=>?_) ?_ ?_ (λx hx=>?_) ?_
  ·rw[g5 _ hr',g4 _ h4,g3 _ (by lia),g2 _ h0]
  ·rw[g5 _ (by lia)];exact B4.h0
  ·rw[g5 _ (by lia)]
   show σ4.h.get 4=_
   rw[show σ4.h.get 4=some (.idict (Y2 es1++[(key,.ref σ1.n)])) from Yd (by decide)]
   unfold Y2
   rw[QG];rfl
  ·rw[show σ5.h.get (5 + r)=_ from Yd (by lia),Om,if_pos rfl]
  ·rw[Om,if_neg (λq=>hp q.symm),List.append_nil]
  ·rcases hmem x hx with h |rfl
   ·have:=R1.ids x h
    rw[g5 _ (by lia),g4 _ (by lia),g3 _ (by lia),g2 _ (by lia)]
    exact R1.tp x h
   ·show σ5.h.get σ1.n=_
    rw[g5 _ (by lia),g4 _ (by lia)]
    exact Tr.get_set_eq (show σ1.n < 65535 by lia)
  ·rcases hmem x hx with h |rfl
   ·have:=R1.ids x h
    exact ⟨this.1,Nat.lt_succ_of_lt this.2⟩
   ·exact ⟨R1.n1,QO _⟩
  ·rw[QG]
   exact List.nodup_append.mpr ⟨R1.nd,by simp,λa ha b hb q=>hout (by
    have h2:b=key:=List.mem_singleton.mp hb
    rw[←h2,←q];exact ha)⟩
  ·rw[QG]
   refine List.nodup_append.mpr ⟨R1.ndi,by simp,λa ha b hb q=>?_⟩
   refine YB (Qb ha) λx hx hq=>?_
   have h1:=(R1.ids x hx).2
   have h3:b=σ1.n:=List.mem_singleton.mp hb
   have h2:x.id=σ1.n:=hq.trans (q.trans h3)
   lia
  ·rcases hmem x hx with h |rfl
   ·exact R1.rs x h
   ·exact hr
  ·rw[Qw];show es1.length + 1<=100;lia
 ·show σ.n<=σ1.n + 1;lia
 ·show σ1.n + 1<=σ.n + 2;lia
end
section
variable {es:List WE}{key:Int}
structure WK(σ σ':St):Prop where
 le:σ.n<=σ'.n
 same:∀i,i < σ.n->σ'.h.get i=σ.h.get i
theorem WK.refl:WK σ σ:=⟨QS _,λ_ _=>rfl⟩
theorem WK.trans(x:WK σ σ1)(y:WK σ1 σ2):WK σ σ2:=⟨QH x.le y.le,λi h=>(y.same i (QY h x.le)).trans (x.same i h)⟩
theorem WK.new:WK σ ⟨σ.h.set o σ.n,Nat.add σ.n 1⟩:=⟨Nat.le_succ _,λi h=>Tr.get_set_ne (Qz h)⟩
theorem RW.grow(R:RW σ es rd gv)(g:WK σ σ'):RW σ' es rd gv where
 h0:=(g.same 0 (by have:=R.n1;lia)).trans R.h0
 h1:=(g.same 1 (by have:=R.n1;lia)).trans R.h1
 h2:=(g.same 2 (by have:=R.n1;lia)).trans R.h2
 h3:=(g.same 3 (by have:=R.n1;lia)).trans R.h3
 h4:=(g.same 4 (by have:=R.n1;lia)).trans R.h4
 sl p hp:=(g.same (5 + p) (by have:=R.n1;lia)).trans (R.sl p hp)
 tp e he:=(g.same e.id (R.ids e he).2).trans (R.tp e he)
 ids e he:=⟨(R.ids e he).1,QY (R.ids e he).2 g.le⟩
 nd:=R.nd
 ndi:=R.ndi
 rs:=R.rs
 n1:=QH R.n1 g.le
 len:=R.len
theorem O9:∀{es:List WE},UO (Y2 es)=XF (es.map (·.key))
 | []=>rfl
 |e::r=>congrArg (V.int (Xn e.key)::·) (O9 (es:=r))
theorem Gg{l:List V}(h:l.length<=60000):Nd σ l= .ok (.ref σ.n) ⟨σ.h.set (.list l) σ.n,Nat.add σ.n 1⟩:=by
 show bc (XU l) (UU σ (.list l)) .no=_
 rw[JZ h];rfl
def XnQ(F:XA)(rd:V)(N:LI):Prop:=rd= .none∨∃z,rd= .int z/\JP F (Xn 16) (N.sub z)=some true
theorem OE(R:RW σ es rd gv){N:LI}(h:XnQ F rd N):run (XW F G) (j + 1) (.fn 839) [.ref 1,.int N] σ= .ok (.ref σ.n) ⟨σ.h.set (.list (XF (es.map (·.key)))) σ.n,Nat.add σ.n 1⟩:=by
 rw[ZN rfl XdJ rfl]
 generalize hk:Ik (XW F G) (run (XW F G) j)=k
 have hF:k.F=F:=by rw[←hk];rfl
 let l:YG:=[(9,.ref 1),(15,.int N)]
 have t1:Wf (Xp 6 (sA 104) XD) (Xp 5 (Xo 1 (Xb 15) (sA 104)) (sA 27)) k l σ= .ok true σ:=by
  show ZI.to (Xp 6 (sA 104) XD k l σ) _ _=_
  rcases h with rfl |⟨z,rfl,hz⟩
  ·rw[YE (c:=true) (R.attr rfl rfl) (show XD k l σ= .ok .none σ from rfl) rfl]
  ·rw[YE (c:=false) (R.attr (v:= .int z) rfl rfl) (show XD k l σ= .ok .none σ from rfl) rfl]
   show Xp 5 (Xo 1 (Xb 15) (sA 104)) (sA 27) k l σ=_
   refine YE (YZ (Xy (show Xh l 15=some (.int N) from rfl)) (R.attr (v:= .int z) rfl rfl) rfl) (R.attr (v:= .int (Xn 16)) rfl rfl) ?_
   show JP k.F (Xn 16) (N.sub z)=_
   rw[hF];exact hz
 have b:I2.body k l σ= .ret (.ref σ.n) ⟨σ.h.set (.list (XF (es.map (·.key)))) σ.n,Nat.add σ.n 1⟩:=by
  refine YV ?_
  rw[JX t1]
  refine YV ?_
  show Xu.to (YI 6 (Xa (sA 105) Xe) k l σ) _ _=_
  have:YI 6 (Xa (sA 105) Xe) k l σ= .ok (.ref σ.n) ⟨σ.h.set (.list (XF (es.map (·.key)))) σ.n,Nat.add σ.n 1⟩:=by
   show Yj.to (Xa (sA 105) Xe k l σ) _ _=_
   rw[XK (R.attr rfl (show Xh (Zu rd gv) 105=some (.ref 4) from rfl)) rfl]
   show Xas σ (σ.h.get 4)=_
   rw[R.h4]
   show Nd σ (UO (Y2 es))=_
   rw[O9]
   exact Gg (by unfold XF;rw[Qs,Qs];have:=R.len;lia)
  rw[this]
 show Ze (I2.body k l σ)=_
 rw[b];rfl
def OS(es:List WE)(res:Nat->Nat):Nat->Nat->List Int
 |_,0=>[]
 |i,n + 1=>((es.filter λe=>e.r == res i).map (·.key))++OS es res (i + 1) n
theorem Xbt{a b:List Int}:XF (a++b)=XF a++XF b:=QG
theorem MP(hres:∀i,res i < 16){T:Nat->LI}(hT:∀i,T (i + 1)=(T i).add (Xn 1)):∀{n i:Nat}{σ:St}{l:YG}{ks:List Int}{q:Nat},RW σ es rd gv->Xh l 9=some (.ref 1)->Xh l 78=some (.ref q)->q < σ.n->σ.h.get q=some (.list (XF ks))->σ.n + n < 60000->ks.length + 100 * n<=60000->
  (∀a,i<=a->a < i + n->ZD k.G 4 (T a) (Xn 16)=some (Xn (res a)))->
  ∃σ' l' q',YW (Xd (Xz 78 (Xo 0 (Xb 78) (Yv (sA 107) (Xo 4 (Xb 110) (sA 27))))) Xg) (Yh 110) k (XI (T i) n) l σ= .next l' σ'/\WK σ σ'/\σ'.n=σ.n + n/\Xh l' 9=some (.ref 1)/\Xh l' 78=some (.ref q')/\q<=q'/\q' < σ'.n/\σ'.h.get q'=some (.list (XF (ks++OS es res i n))):=by
 intro n
 induction n with
 |zero=>
  intro i σ l ks q R h9 h78 hq hc hn hl hm
  exact ⟨σ,l,q,rfl,.refl,rfl,h9,h78,QS _,hq,by rw[show OS es res i 0=[] from rfl,List.append_nil];exact hc⟩
 |succ n ih=>
  intro i σ l ks q R h9 h78 hq hc hn hl hm
  let l1:YG:=XM l 110 (.int (T i))
  let kr:List Int:=(es.filter λe=>e.r == res i).map (·.key)
  have hkr:kr.length<=100:=by
   show (List.map _ (List.filter _ _)).length<=100
   rw[Qs];exact QH (QT _ _) R.len
  let σ1:St:=⟨σ.h.set (.list (XF (ks++kr))) σ.n,Nat.add σ.n 1⟩
  have e1:Xh l1 9=some (.ref 1):=by show Xh (XM l 110 _) 9=_;rw[X8 (by decide)];exact h9
  have e2:Xh l1 78=some (.ref q):=by show Xh (XM l 110 _) 78=_;rw[X8 (by decide)];exact h78
  have s1:Xz 78 (Xo 0 (Xb 78) (Yv (sA 107) (Xo 4 (Xb 110) (sA 27)))) k l1 σ= .next (XM l1 78 (.ref σ.n)) σ1:=by
   show Xu.to (Xo 0 (Xb 78) (Yv (sA 107) (Xo 4 (Xb 110) (sA 27))) k l1 σ) _ _=_
   have:Xo 0 (Xb 78) (Yv (sA 107) (Xo 4 (Xb 110) (sA 27))) k l1 σ= .ok (.ref σ.n) σ1:=by
    show Xu.to (Xb 78 k l1 σ) _ _=_
    rw[Xy e2]
    show Xu.to (Yv (sA 107) (Xo 4 (Xb 110) (sA 27)) k l1 σ) _ _=_
    rw[R.slotE (T:=T i) e1 Yz (hm i (QS _) (by lia)) (hres i)]
    show Xkx σ (σ.h.get q) (σ.h.get (5 + res i))=_
    rw[hc,R.sl _ (hres i)]
    show Nd σ (XF ks++XF kr)=_
    rw[←Xbt]
    exact Gg (by unfold XF;rw[Qs,Qw];lia)
   rw[this]
  have step:YW (Xd (Xz 78 (Xo 0 (Xb 78) (Yv (sA 107) (Xo 4 (Xb 110) (sA 27))))) Xg) (Yh 110) k (XI (T i) (n + 1)) l σ=
    YW (Xd (Xz 78 (Xo 0 (Xb 78) (Yv (sA 107) (Xo 4 (Xb 110) (sA 27))))) Xg) (Yh 110) k (XI (T (i + 1)) n) (XM l1 78 (.ref σ.n)) σ1:=by
   show (Xd (Xz 78 (Xo 0 (Xb 78) (Yv (sA 107) (Xo 4 (Xb 110) (sA 27))))) Xg k l1 σ).to (YW _ (Yh 110) k (XI ((T i).add (Xn 1)) n))=_
   rw[Xw s1,hT]
   rfl
  rw[step]
  refine x38 (ih (i:=i + 1) (σ:=σ1) (l:=XM l1 78 (.ref σ.n)) (ks:=ks++kr) (q:=σ.n) (R.grow .new) (by rw[X8 (by decide)];exact e1) Yz (QO _) (Tr.get_set_eq (by lia))
   (by show σ.n + 1 + n < 60000;lia) (by rw[Qw];lia) (λa h1 h2=>hm a (by lia) (by lia))) λσ' l' q' f1 f2 f3 f4 f5 f55 f6 f7=>?_
  refine ⟨σ',l',q',f1,(WK.new (σ:=σ)).trans f2,?_,f4,f5,QH (Nat.le_of_lt hq) f55,f6,?_⟩
  ·rw[f3];show σ.n + 1 + n=σ.n + (n + 1);lia
  ·rw[f7,List.append_assoc];rfl
theorem OF(R:RW σ es (.int z) gv)(hn:σ.n < 50000){N:LI}(hnear:JP F (Xn 16) (N.sub z)=some false)(hres:∀i,res i < 16){T:Nat->LI}(hT:∀i,T (i + 1)=(T i).add (Xn 1))(hT1:z.add ⟨1,[]⟩=T 1)(hn16:n < 16)
  (hr:Yo F [.int (z.add ⟨1,[]⟩),.int (N.add ⟨1,[]⟩)]=some (XI (z.add ⟨1,[]⟩) n))(hm:∀a,1<=a->a < 1 + n->ZD G 4 (T a) (Xn 16)=some (Xn (res a))):
  ∃σ' q,run (XW F G) (j + 1) (.fn 839) [.ref 1,.int N] σ= .ok (.ref q) σ'/\WK σ σ'/\σ'.n<=σ.n + 16/\σ.n<=q/\q < σ'.n/\σ'.h.get q=some (.list (XF (OS es res 1 n))):=by
 rw[ZN rfl XdJ rfl]
 generalize hk:Ik (XW F G) (run (XW F G) j)=k
 have hF:k.F=F:=by rw[←hk];rfl
 have hG:k.G=G:=by rw[←hk];rfl
 let l:YG:=[(9,.ref 1),(15,.int N)]
 have t1:Wf (Xp 6 (sA 104) XD) (Xp 5 (Xo 1 (Xb 15) (sA 104)) (sA 27)) k l σ= .ok false σ:=by
  show ZI.to (Xp 6 (sA 104) XD k l σ) _ _=_
  rw[YE (c:=false) (R.attr (v:= .int z) rfl rfl) (show XD k l σ= .ok .none σ from rfl) rfl]
  show Xp 5 (Xo 1 (Xb 15) (sA 104)) (sA 27) k l σ=_
  refine YE (YZ (Xy (show Xh l 15=some (.int N) from rfl)) (R.attr (v:= .int z) rfl rfl) rfl) (R.attr (v:= .int (Xn 16)) rfl rfl) ?_
  show JP k.F (Xn 16) (N.sub z)=_
  rw[hF];exact hnear
 let σ1:St:=⟨σ.h.set (.list []) σ.n,Nat.add σ.n 1⟩
 let l1:YG:=XM l 78 (.ref σ.n)
 have R1:RW σ1 es (.int z) gv:=R.grow .new
 have s1:Xz 78 (YI 6 (Xa (sA 106) Xe)) k l σ= .next l1 σ1:=by
  show Xu.to (YI 6 (Xa (sA 106) Xe) k l σ) _ _=_
  have:YI 6 (Xa (sA 106) Xe) k l σ= .ok (.ref σ.n) σ1:=by
   show Yj.to (Xa (sA 106) Xe k l σ) _ _=_
   rw[XK (R.attr rfl (show Xh (Zu (.int z) gv) 106=some (.ref 3) from rfl)) rfl]
   show Xas σ (σ.h.get 3)=_
   rw[R.h3]
   rfl
  rw[this]
 refine x38 (MP (k:=k) hres hT (n:=n) (i:=1) (σ:=σ1) (l:=l1) (ks:=[]) (q:=σ.n) R1 rfl rfl (QO _) (Tr.get_set_eq (by lia)) (by show σ.n + 1 + n < 60000;lia) (by show 0 + 100 * n<=60000;lia) (by rw[hG];exact hm)) λσ2 l2 q f1 f2 f3 f4 f5 f55 f6 f7=>?_
 have s2:Dn (Yh 110) (Xa (Xo 0 (sA 104) (Xf 1)) (Xa (Xo 0 (Xb 15) (Xf 1)) Xe)) (Xd (Xz 78 (Xo 0 (Xb 78) (Yv (sA 107) (Xo 4 (Xb 110) (sA 27))))) Xg) k l1 σ1= .next l2 σ2:=by
  show Yj.to (Xa (Xo 0 (sA 104) (Xf 1)) (Xa (Xo 0 (Xb 15) (Xf 1)) Xe) k l1 σ1) _ _=_
  rw[XK (YZ (R1.attr (v:= .int z) rfl rfl) (show Xf 1 k l1 σ1= .ok (.int ⟨1,[]⟩) σ1 from rfl) (show ZD k.G 0 z ⟨1,[]⟩=some (z.add ⟨1,[]⟩) from rfl))
   (XK (YZ (Xy (show Xh l1 15=some (.int N) from rfl)) (show Xf 1 k l1 σ1= .ok (.int ⟨1,[]⟩) σ1 from rfl) (show ZD k.G 0 N ⟨1,[]⟩=some (N.add ⟨1,[]⟩) from rfl)) rfl)]
  show oc (Yo k.F [.int (z.add ⟨1,[]⟩),.int (N.add ⟨1,[]⟩)]) Zk.no (λits=>YW _ (Yh 110) k its l1 σ1)=_
  rw[hF,hr,hT1]
  exact f1
 have b:I2.body k l σ= .ret (.ref q) σ2:=by
  refine (Xw (l':=l) (σ':=σ) (by rw[JX t1];rfl)).trans ((Xw s1).trans ((Xw s2).trans (YV ?_)))
  show Xu.to (Xb 78 k l2 σ2) _ _=_
  rw[Xy f5]
 refine ⟨σ2,q,?_,(WK.new (σ:=σ)).trans f2,?_,f55,f6,f7⟩
 ·show Ze (I2.body k l σ)=_
  rw[b];rfl
 ·rw[f3];show σ.n + 1 + n<=σ.n + 16;lia
end
section
variable {es:List WE}{key:Int}
abbrev NI:MS:=Xd (J3 [110,114] (Yv (sA 105) (Xb 109))) (Xd (Yn (Xp 3 (Xb 110) (Xb 15)) (Xd (Zb (Xi (Xb 78) 0 (Xa (Yg (Xa (Xb 110) (Xa (Xb 114) (Xa (Xb 109) Xe)))) Xe))) Xg) Xg) Xg)
theorem Di{ks:List Int}{κ:Int}(h:ks[i]?=some κ):Zn (XF ks) i=some (.int (Xn κ)):=by
 rw[Zo];unfold XF;rw[QE,h];rfl
theorem UW{ks:List Int}(h:ks.length<=i):Zn (XF ks) i=none:=by
 rw[Zo];unfold XF;rw[QE,List.getElem?_eq_none h];rfl
theorem RW.pair(R:RW σ es rd gv){e:WE}(he:e∈es)(h9:Xh l 9=some (.ref 1))(h109:Xh l 109=some (.int (Xn e.key))):
  J3 [110,114] (Yv (sA 105) (Xb 109)) k l σ= .next (XM (XM l 110 (.int e.t)) 114 (.int e.o)) σ:=by
 refine x21 (List.append_of_mem he) λpre post zz1=>?_;subst zz1
 have s1:Yv (sA 105) (Xb 109) k l σ= .ok (.ref e.id) σ:=by
  show Xu.to (sA 105 k l σ) _ _=_
  rw[R.attr h9 (show Xh (Zu rd gv) 105=some (.ref 4) from rfl)]
  show Xu.to (Xb 109 k l σ) _ _=_
  rw[Xy h109]
  show YS (Gs (Xn e.key) (σ.h.get 4)) σ=_
  rw[R.h4]
  show YS (Y8 (Y2 (pre++e::post)) e.key) σ=_
  rw[UQ (IG R.nd)]
 show Xu.to (Yv (sA 105) (Xb 109) k l σ) _ _=_
 rw[s1]
 show oc (It (σ.h.get e.id)) Zk.no (λvs=>oc (Zp l [110,114] vs) .no λl=> .next l σ)=_
 rw[R.tp e he]
 rfl
structure Lc(l:YG)(N:LI)(f:Nat):Prop where
 h9:Xh l 9=some (.ref 1)
 h15:Xh l 15=some (.int N)
 h78:Xh l 78=some (.ref f)
theorem Lc.set{N:LI}(h:Lc l N f)(h1:n≠9)(h2:n≠15)(h3:n≠78):Lc (XM l n v) N f:=⟨(X8 h1).trans h.h9,(X8 h2).trans h.h15,(X8 h3).trans h.h78⟩
theorem Xgl(R:RW σ es rd gv){N:LI}(X:Lc l N f){e:WE}(he:e∈es)(h109:Xh l 109=some (.int (Xn e.key)))(hd:JP k.F e.t N=some false):∃l',NI k l σ= .next l' σ/\Lc l' N f:=by
 let l1:=XM (XM l 110 (.int e.t)) 114 (.int e.o)
 have X1:Lc l1 N f:=(X.set (by decide) (by decide) (by decide)).set (by decide) (by decide) (by decide)
 have t1:Xp 3 (Xb 110) (Xb 15) k l1 σ= .ok false σ:=YE (Xy ((X8 (by decide)).trans Yz)) (Xy X1.h15) hd
 refine ⟨l1,(Xw (R.pair he X.h9 h109)).trans ((Xw (l':=l1) (σ':=σ) ?_).trans rfl),X1⟩
 rw[JX t1];rfl
theorem Xgn(R:RW σ es rd gv){N:LI}(X:Lc l N f){e:WE}(he:e∈es)(h109:Xh l 109=some (.int (Xn e.key)))(hd:JP k.F e.t N=some true)(hf:f < σ.n)(hc:σ.h.get f=some (.list []))(hn:σ.n < 60000):
  ∃l' σ',NI k l σ= .next l' σ'/\Lc l' N f/\σ'.n=σ.n + 1/\(∀i,i < σ.n->i≠f->σ'.h.get i=σ.h.get i)/\σ'.h.get f=some (.list [.ref σ.n])/\σ'.h.get σ.n=some (.tup [.int e.t,.int e.o,.int (Xn e.key)]):=by
 let l1:=XM (XM l 110 (.int e.t)) 114 (.int e.o)
 have X1:Lc l1 N f:=(X.set (by decide) (by decide) (by decide)).set (by decide) (by decide) (by decide)
 have e110:Xh l1 110=some (.int e.t):=(X8 (by decide)).trans Yz
 have e114:Xh l1 114=some (.int e.o):=Yz
 have e109:Xh l1 109=some (.int (Xn e.key)):=(X8 (by decide)).trans ((X8 (by decide)).trans h109)
 have t1:Xp 3 (Xb 110) (Xb 15) k l1 σ= .ok true σ:=YE (Xy e110) (Xy X1.h15) hd
 let σ1:St:=⟨σ.h.set (.tup [.int e.t,.int e.o,.int (Xn e.key)]) σ.n,Nat.add σ.n 1⟩
 let σ2:St:=σ1.put f (.list ([]++[.ref σ.n]))
 have hc1:σ1.h.get f=some (.list []):=(Tr.get_set_ne (Qz hf)).trans hc
 have s2:Zb (Xi (Xb 78) 0 (Xa (Yg (Xa (Xb 110) (Xa (Xb 114) (Xa (Xb 109) Xe)))) Xe)) k l1 σ= .next l1 σ2:=by
  have tup:Yg (Xa (Xb 110) (Xa (Xb 114) (Xa (Xb 109) Xe))) k l1 σ= .ok (.ref σ.n) σ1:=by
   show Yj.to (Xa (Xb 110) (Xa (Xb 114) (Xa (Xb 109) Xe)) k l1 σ) _ _=_
   rw[XK (Xy e110) (XK (Xy e114) (XK (Xy e109) rfl))]
   rfl
  show Xu.to (Xi (Xb 78) 0 (Xa (Yg (Xa (Xb 110) (Xa (Xb 114) (Xa (Xb 109) Xe)))) Xe) k l1 σ) _ _=_
  rw[NQ (Xy X1.h78) hc (XK tup rfl),hc1,OV rfl]
 refine ⟨l1,σ2,(Xw (R.pair he X.h9 h109)).trans ((Xw (l':=l1) (σ':=σ2) ?_).trans rfl),X1,rfl,λi h1 h2=>?_,Yd (by lia),?_⟩
 ·rw[JX t1]
  exact (Xw s2).trans rfl
 ·exact (XV h2).trans (Tr.get_set_ne (Qz h1))
 ·exact (XV (Nat.ne_of_gt hf)).trans (Tr.get_set_eq (by lia))
theorem IW(R:RW σ es rd gv){N:LI}(hq:σ.h.get q=some (.list (XF kl))):∀{m i g:Nat}{l:YG},Lc l N f->(∀a,i<=a->a < i + m->∃e∈es,kl[a]?=some e.key/\JP k.F e.t N=some false)->
  ∃l',X9 Y7 NI (Yh 109) k q (g + m) i l σ=X9 Y7 NI (Yh 109) k q g (i + m) l' σ/\Lc l' N f:=by
 intro m
 induction m with
 |zero=>exact λX _=>⟨_,rfl,X⟩
 |succ m ih=>
  intro i g l X h
  refine YO (h i (QS _) (Nat.lt_add_of_pos_right (Nat.succ_pos m))) λe he h1 h2=>?_
  refine YB (Xgl R (X.set (n:=109) (v:= .int (Xn e.key)) (by decide) (by decide) (by decide)) he Yz h2) λl1 e1 X1=>?_
  refine YB (ih (i:=i + 1) (g:=g) X1 λa h1 h2=>h a (Nat.le_of_succ_le h1) (QY h2 (Nat.le_of_eq (QX i 1 m)))) λl2 e2 X2=>?_
  refine ⟨l2,?_,X2⟩
  have:X9 Y7 NI (Yh 109) k q (g + m + 1) i l σ=X9 Y7 NI (Yh 109) k q (g + m) (i + 1) l1 σ:=ZU (by rw[hq];rfl) (Di h1) rfl e1
  rw[show g + (m + 1)=g + m + 1 from rfl,this,e2,show i + 1 + m=i + (m + 1) from QX i 1 m]
theorem GZ(hC:k.cls=Xr.get){N:LI}(B:BW σ rd gv)(X:Lc l N f){kv:List V}(hf:σ.h.get f=some (.list its))(hff:21<=f/\f < σ.n)(hrd:rd= .none∨∃z,rd= .int z/\Ow k.F z N=some true)(hn:σ.n < 60000)
  (hi:(its=[]/\kv=[])∨∃t a b c,its=[.ref t]/\21<=t/\t < σ.n/\σ.h.get t=some (.tup [a,b,c])/\kv=[c]):
  ∃σ',Xd (Yn (Wf (Xp 6 (sA 104) XD) (Xp 4 (Xb 15) (sA 104))) (Xd (Xl (Xb 9) 104 (Xb 15)) Xg) Xg) (Xd (Xq (Uu (Xb 109) (Zj [110,114,109]) [] (YI 7 (Xa (Xb 78) Xe)))) Xg) k l σ= .ret (.ref (σ.n + 1)) σ'/\
   σ'.h.get 0=some (.flds 842 (Zu (.int N) gv))/\(∀i,i≠0->i < σ.n->σ'.h.get i=σ.h.get i)/\σ'.h.get (σ.n + 1)=some (.list kv)/\σ'.n=σ.n + 2:=by
 have t1:Wf (Xp 6 (sA 104) XD) (Xp 4 (Xb 15) (sA 104)) k l σ= .ok true σ:=by
  show ZI.to (Xp 6 (sA 104) XD k l σ) _ _=_
  rcases hrd with rfl |⟨z,rfl,hz⟩
  ·rw[YE (c:=true) (B.attr X.h9 rfl) (show XD k l σ= .ok .none σ from rfl) rfl]
  ·rw[YE (c:=false) (B.attr (v:= .int z) X.h9 rfl) (show XD k l σ= .ok .none σ from rfl) rfl]
   exact YE (Xy X.h15) (B.attr (v:= .int z) X.h9 rfl) hz
 let σ1:St:=σ.put 0 (.flds 842 (Zu (.int N) gv))
 have g1:∀i,i≠0->σ1.h.get i=σ.h.get i:=λi h=>XV h
 have s1:Xl (Xb 9) 104 (Xb 15) k l σ= .next l σ1:=by
  show Xu.to (Xb 15 k l σ) _ _=_
  rw[Xy X.h15]
  show Xu.to (Xb 9 k l σ) _ _=_
  rw[Xy X.h9]
  show XbX k l 104 (.int N) σ (σ.h.get 1)=_
  rw[B.h1]
  show XbW k l 104 (.int N) σ 842 0 (σ.h.get 0)=_
  rw[B.h0]
  show oc (k.cls 842) Zk.no (λcl=>bc (WX cl.mask 104) (.next l (σ.put 0 (.flds 842 (XM (Zu rd gv) 104 (.int N))))) .no)=_
  rw[hC]
  rfl
 let σ2:St:=⟨σ1.h.set (.list its) σ1.n,Nat.add σ1.n 1⟩
 have g2:∀i,i≠σ.n->σ2.h.get i=σ1.h.get i:=λi h=>Tr.get_set_ne h
 have g2n:σ2.h.get σ.n=some (.list its):=Tr.get_set_eq (show σ.n < 65535 by lia)
 let σ3:St:=⟨σ2.h.set (.list kv) σ2.n,Nat.add σ2.n 1⟩
 have g3:∀i,i≠σ.n + 1->σ3.h.get i=σ2.h.get i:=λi h=>Tr.get_set_ne h
 have c1:YI 7 (Xa (Xb 78) Xe) k l σ1= .ok (.ref σ.n) σ2:=by
  show Yj.to (Xa (Xb 78) Xe k l σ1) _ _=_
  rw[XK (Xy X.h78) rfl]
  show Gq σ1 (σ1.h.get f)=_
  rw[g1 _ (by lia),hf]
  rcases hi with ⟨rfl,rfl⟩ |⟨t,a,b,c,rfl,_⟩<;>rfl
 have c2:Uu (Xb 109) (Zj [110,114,109]) [] (YI 7 (Xa (Xb 78) Xe)) k l σ1= .ok (.ref (σ.n + 1)) σ3:=by
  show Xu.to (YI 7 (Xa (Xb 78) Xe) k l σ1) _ _=_
  rw[c1]
  show Yj.to (Xc1 (Xb 109) (Zj [110,114,109]) k [] σ.n σ2 (σ2.h.get σ.n)) _ _=_
  rw[g2n]
  have:JV (W8 Y7 σ.n) (Xb 109) (Zj [110,114,109]) k [] 64 0 σ2= .ok kv σ2:=by
   have step:∀f j,JV (W8 Y7 σ.n) (Xb 109) (Zj [110,114,109]) k [] (f + 1) j σ2= @Option.rec V (λ_=>Yj) (.ok [] σ2) (λv=>oc (Zj [110,114,109] [] v σ2) .no λl'=>((Xb 109) k l' σ2).to .no λx s=>(JV (W8 Y7 σ.n) (Xb 109) (Zj [110,114,109]) k [] f (Nat.add j 1) s).to .no λxs s=> .ok (x::xs) s) (Zn its j):=λf j=>by
    show oc (oc (Y7 (σ2.h.get σ.n)) none λits=>some (Zn its j)) Yj.no _=_
    rw[g2n]
    rfl
   rcases hi with ⟨rfl,rfl⟩ |⟨t,a,b,c,rfl,h1,h2,h3,rfl⟩
   ·rw[step 63 0];rfl
   ·rw[step 63 0]
    show oc (oc (It (σ2.h.get t)) none λvs=>Zp [] [110,114,109] vs) Yj.no _=_
    rw[g2 _ (by lia),g1 _ (by lia),h3]
    show Yj.to (JV (W8 Y7 σ.n) (Xb 109) (Zj [110,114,109]) k [] 63 1 σ2) _ _=_
    rw[step 62 1];rfl
  show Yj.to (JV (W8 Y7 σ.n) (Xb 109) (Zj [110,114,109]) k [] 64 0 σ2) _ _=_
  rw[this]
  show Nd σ2 kv=_
  rw[Gg (by rcases hi with ⟨_,rfl⟩ |⟨t,a,b,c,_,_,_,_,rfl⟩<;>simp)]
  rfl
 refine ⟨σ3,?_,?_,λi h0 hi=>?_,?_,rfl⟩
 ·refine (Xw (l':=l) (σ':=σ1) (by rw[JX t1];exact (Xw s1).trans rfl)).trans (YV ?_)
  show Xu.to (Uu (Xb 109) (Zj [110,114,109]) [] (YI 7 (Xa (Xb 78) Xe)) k l σ1) _ _=_
  rw[c2]
 ·rw[g3 _ (by lia),g2 _ (by lia)];exact Yd (by decide)
 ·rw[g3 _ (by lia),g2 _ (by lia),g1 _ h0]
 ·exact Tr.get_set_eq (show σ.n + 1 < 65535 by lia)
end
section
variable {es:List WE}{key:Int}
theorem RW.fld{rd':V}(R:RW σ es rd gv)(h0:σ'.h.get 0=some (.flds 842 (Zu rd' gv)))(hk:∀i,i≠0->i < σ.n->σ'.h.get i=σ.h.get i)(hn:σ.n<=σ'.n):RW σ' es rd' gv where
 h0:=h0
 h1:=(hk 1 (by decide) (by have:=R.n1;lia)).trans R.h1
 h2:=(hk 2 (by decide) (by have:=R.n1;lia)).trans R.h2
 h3:=(hk 3 (by decide) (by have:=R.n1;lia)).trans R.h3
 h4:=(hk 4 (by decide) (by have:=R.n1;lia)).trans R.h4
 sl p hp:=(hk (5 + p) (by lia) (by have:=R.n1;lia)).trans (R.sl p hp)
 tp e he:=(hk e.id (by have:=R.ids e he;lia) (R.ids e he).2).trans (R.tp e he)
 ids e he:=⟨(R.ids e he).1,QY (R.ids e he).2 hn⟩
 nd:=R.nd
 ndi:=R.ndi
 rs:=R.rs
 n1:=QH R.n1 hn
 len:=R.len
theorem RW.aside(R:RW σ es rd gv)(hf:21<=f)(hx:∀e∈es,e.id≠f)(hk:∀i,i < σ.n->i≠f->σ'.h.get i=σ.h.get i)(hn:σ.n<=σ'.n):RW σ' es rd gv where
 h0:=(hk 0 (by have:=R.n1;lia) (by lia)).trans R.h0
 h1:=(hk 1 (by have:=R.n1;lia) (by lia)).trans R.h1
 h2:=(hk 2 (by have:=R.n1;lia) (by lia)).trans R.h2
 h3:=(hk 3 (by have:=R.n1;lia) (by lia)).trans R.h3
 h4:=(hk 4 (by have:=R.n1;lia) (by lia)).trans R.h4
 sl p hp:=(hk (5 + p) (by have:=R.n1;lia) (by lia)).trans (R.sl p hp)
 tp e he:=(hk e.id (R.ids e he).2 (hx e he)).trans (R.tp e he)
 ids e he:=⟨(R.ids e he).1,QY (R.ids e he).2 hn⟩
 nd:=R.nd
 ndi:=R.ndi
 rs:=R.rs
 n1:=QH R.n1 hn
 len:=R.len
def DC(F:XA)(G:Oz)(j:Nat)(es:List WE)(rd:V)(gv:LI)(N:LI)(kl:List Int):Prop:=
 ∀σ,RW σ es rd gv->σ.n < 50000->∃σ' q,run (XW F G) (j + 1) (.fn 839) [.ref 1,.int N] σ= .ok (.ref q) σ'/\WK σ σ'/\σ'.n<=σ.n + 16/\σ.n<=q/\q < σ'.n/\σ'.h.get q=some (.list (XF kl))
theorem D6:∀{es:List WE}{e d:WE},(es.map (·.key)).Nodup->e∈es->d∈es->e.key=d.key->e=d:=by
 intro ux
 induction ux with
 |cons a r ih=>
  intro e d hn he hd h
  obtain ⟨h1,h2⟩:=List.nodup_cons.mp hn
  rcases Qe he with he' |he'
  ·rcases Qe hd with hd' |hd'
   ·rw[he',hd']
   ·exact absurd (show a.key∈r.map (·.key) from Qc ⟨d,hd',by rw[←he'];exact h.symm⟩) h1
  ·rcases Qe hd with hd' |hd'
   ·exact absurd (show a.key∈r.map (·.key) from Qc ⟨e,he',by rw[←hd'];exact h⟩) h1
   ·exact ih h2 he' hd' h
 |nil=>
  intro v0 v1 v2 v3 v4 v5
  contradiction
theorem f64{y:Nat}(h:y<=60):64 - y + y=64:=Nat.sub_add_cancel (QH h (by decide))
theorem g64{y:Nat}(h:y<=60):64 - y=(63 - y) + 1:=Nat.succ_sub (QH h (by decide))
theorem h64{L m:Nat}(e:L=i + m + 1)(h:L<=60):64 - L + m=63 - i:=by
 subst e
 show 63 + 1 - (i + m + 1) + m=_
 rw[Nat.add_sub_add_right,←Nat.sub_sub,Nat.sub_add_cancel (Nat.le_sub_of_add_le (QH (Nat.le_of_eq (Nat.add_comm m i)) (QH (Nat.le_of_succ_le h) (by decide))))]
theorem i64{L m:Nat}(e:L=i + m + 1):L=i + 1 + m:=by rw[e,QX]
theorem Xgm(R:RW σ es rd gv)(hn:σ.n < 40000){N:LI}(HK:DC F G j es rd gv N kl)(hl:kl.length<=60)(hrd:rd= .none∨∃z,rd= .int z/\Ow F z N=some true)
  (h:(dk=[]/\∀a,a < kl.length->∃e∈es,kl[a]?=some e.key/\JP F e.t N=some false)∨
   ∃i d,dk=[d.key]/\d∈es/\i < kl.length/\kl[i]?=some d.key/\JP F d.t N=some true/\ZD G 4 d.t (Xn 16)=some (Xn d.r)/\∀a,a < kl.length->a≠i->∃e∈es,kl[a]?=some e.key/\JP F e.t N=some false):
  ∃σ' q,run (XW F G) (j + 2) (.fn 832) [.ref 1,.int N] σ= .ok (.ref q) σ'/\RW σ' (es.filter λx=> !(dk.contains x.key)) (.int N) gv/\σ'.h.get q=some (.list (XF dk))/\σ.n<=q/\q < σ'.n/\σ.n<=σ'.n/\σ'.n<=σ.n + 40/\∀e∈es,e.id≠q:=by
 have hn1:=R.n1
 rw[ZN rfl XkM rfl]
 generalize hk:Ik (XW F G) (run (XW F G) (j + 1))=k
 have hG:k.G=G:=by rw[←hk];rfl
 have hF:k.F=F:=by rw[←hk];rfl
 have hC:k.cls=Xr.get:=by rw[←hk];rfl
 have hc:k.call=run (XW F G) (j + 1):=by rw[←hk];rfl
 let l:YG:=[(9,.ref 1),(15,.int N)]
 let f:=σ.n
 let σ0:St:=⟨σ.h.set (.list []) σ.n,Nat.add σ.n 1⟩
 have R0:RW σ0 es rd gv:=R.grow .new
 have hf0:σ0.h.get f=some (.list []):=Tr.get_set_eq (show σ.n < 65535 by lia)
 let l0:YG:=XM l 78 (.ref f)
 have X0:Lc l0 N f:=⟨rfl,rfl,rfl⟩
 have s0:Xz 78 (Yx Xe) k l σ= .next l0 σ0:=rfl
 refine x26 (HK σ0 R0 (by show σ.n + 1 < 50000;lia)) λσ1 q u1 u2 u3 u4 u5 u6=>?_
 have hn0:σ0.n=σ.n + 1:=rfl
 have R1:RW σ1 es rd gv:=R0.grow u2
 have hf1:σ1.h.get f=some (.list []):=(u2.same f (by lia)).trans hf0
 have m1:Xi (Xb 9) 115 (Xa (Xb 15) Xe) k l0 σ0= .ok (.ref q) σ1:=by
  rw[R0.b.meth hC X0.h9 rfl (show Xh Jx.meths 115=some 839 from rfl) (XK (Xy X0.h15) rfl),hc,u1]
 have forE:Ip (Yh 109) (Xi (Xb 9) 115 (Xa (Xb 15) Xe)) NI k l0 σ0=X9 Y7 NI (Yh 109) k q 64 0 l0 σ1:=by
  show Xu.to (Xi (Xb 9) 115 (Xa (Xb 15) Xe) k l0 σ0) _ _=_
  rw[m1]
  show Xbn NI (Yh 109) k q l0 σ1 (σ1.h.get q)=_
  rw[u6];rfl
 have hids:∀e∈es,e.id < σ.n:=λe he=>(R.ids e he).2
 rcases h with ⟨rfl,hall⟩ |⟨i,d,rfl,hd,hi,hki,hdue,hmod,hrest⟩
 ·
  obtain ⟨l1,e1,X1⟩:=IW (g:=64 - kl.length) R1 u6 (m:=kl.length) (i:=0) X0 λa h1 h2=>by rw[hF];rw[QM] at h2;exact hall a h2
  rw[f64 hl] at e1
  have e2:X9 Y7 NI (Yh 109) k q (64 - kl.length) (0 + kl.length) l1 σ1= .next l1 σ1:=by
   rw[g64 hl]
   exact Ji (by rw[u6];rfl) (UW (Nat.le_of_eq (QM _).symm))
  have s2:Ip (Zj [110,114,109]) (Xb 78) (Xd (Zb (Xi (Xb 9) 112 (Xa (Xb 109) Xe))) Xg) k l1 σ1= .next l1 σ1:=by
   show Xu.to (Xb 78 k l1 σ1) _ _=_
   rw[Xy X1.h78]
   show Xbn _ (Zj [110,114,109]) k f l1 σ1 (σ1.h.get f)=_
   rw[hf1]
   show X9 Y7 _ (Zj [110,114,109]) k f 64 0 l1 σ1=_
   exact Ji (get:=Y7) (f:=63) (its:=[]) (by rw[hf1];rfl) rfl
  refine x15 (GZ hC R1.b X1 hf1 ⟨by lia,by have:=u2.le;lia⟩ (by rw[hF];exact hrd) (by lia) (.inl ⟨rfl,rfl⟩)) λσ3 v1 v2 v3 v4 v5=>?_
  have b:I1.body k l σ= .ret (.ref (σ1.n + 1)) σ3:=(Xw s0).trans ((Xw (forE.trans (e1.trans e2))).trans ((Xw s2).trans v1))
  refine ⟨σ3,σ1.n + 1,?_,?_,v4,by have:=u2.le;lia,by lia,by have:=u2.le;lia,by lia,λe he=>by have:=hids e he;have:=u2.le;lia⟩
  ·show Ze (I1.body k l σ)=_
   rw[b];rfl
  ·have:es.filter (λx=> !(([]:List Int).contains x.key))=es:=by rw[List.filter_eq_self];intro x _;rfl
   rw[this]
   exact R1.fld v2 v3 (by lia)
 ·
  obtain ⟨l1,e1,X1⟩:=IW (g:=64 - i) R1 u6 (m:=i) (i:=0) X0 λa h1 h2=>by rw[hF];rw[QM] at h2;exact hrest a (Nat.lt_trans h2 hi) (Qz h2)
  have hi':i<=60:=Nat.le_of_lt (QY hi hl)
  obtain ⟨m,hm⟩:=Nat.exists_eq_add_of_lt hi
  rw[f64 hi',QM] at e1
  refine x26 (Xgn R1 (k:=k) (X1.set (n:=109) (v:= .int (Xn d.key)) (by decide) (by decide) (by decide)) hd Yz (by rw[hF];exact hdue) (by have:=u2.le;lia) hf1 (by lia)) λl2 σ2 w1 X2 w2 w3 w4 w5=>?_
  have R2:RW σ2 es rd gv:=R1.aside (f:=f) hn1 (λe he=>Qz (hids e he)) w3 (by lia)
  have u6':σ2.h.get q=some (.list (XF kl)):=(w3 q u5 (by lia)).trans u6
  have e2:X9 Y7 NI (Yh 109) k q (64 - i) i l1 σ1=X9 Y7 NI (Yh 109) k q (63 - i) (i + 1) l2 σ2:=by
   rw[g64 hi']
   exact ZU (by rw[u6];rfl) (Di hki) rfl w1
  obtain ⟨l3,e3,X3⟩:=IW (g:=64 - kl.length) R2 u6' (m:=m) (i:=i + 1) X2 λa h1 h2=>by rw[hF];exact hrest a (by rw[i64 hm];exact h2) (Nat.ne_of_gt h1)
  rw[h64 hm hl] at e3
  have e4:X9 Y7 NI (Yh 109) k q (64 - kl.length) (i + 1 + m) l3 σ2= .next l3 σ2:=by
   rw[g64 hl]
   exact Ji (by rw[u6'];rfl) (UW (Nat.le_of_eq (i64 hm)))
  let l4:YG:=XM (XM (XM l3 110 (.int d.t)) 114 (.int d.o)) 109 (.int (Xn d.key))
  have X4:Lc l4 N f:=((X3.set (by decide) (by decide) (by decide)).set (by decide) (by decide) (by decide)).set (by decide) (by decide) (by decide)
  refine x15 (Wp (j:=j) (F:=F) (key:=d.key) R2 (by lia) (λe he hek=>by
   have:e=d:=D6 R.nd he hd hek
   rw[this];exact hmod)) λσ3 c1 R3 c2 c3 c4=>?_
  have hf3:σ3.h.get f=some (.list [.ref σ1.n]):=(c4 f hn1 (by have:=u2.le;lia)).trans w4
  have ht3:σ3.h.get σ1.n=some (.tup [.int d.t,.int d.o,.int (Xn d.key)]):=(c4 σ1.n (by have:=u2.le;lia) (by lia)).trans w5
  have s2:Ip (Zj [110,114,109]) (Xb 78) (Xd (Zb (Xi (Xb 9) 112 (Xa (Xb 109) Xe))) Xg) k l3 σ2= .next l4 σ3:=by
   show Xu.to (Xb 78 k l3 σ2) _ _=_
   rw[Xy X3.h78]
   show Xbn _ (Zj [110,114,109]) k f l3 σ2 (σ2.h.get f)=_
   rw[w4]
   show X9 Y7 _ (Zj [110,114,109]) k f 64 0 l3 σ2=_
   rw[ZU (its:=[.ref σ1.n]) (v:= .ref σ1.n) (l':=l4) (l'':=l4) (s':=σ3) (by rw[w4];rfl) rfl ?_ ?_]
   ·exact Ji (get:=Y7) (f:=62) (its:=[.ref σ1.n]) (by rw[hf3];rfl) rfl
   ·show oc (It (σ2.h.get σ1.n)) none (λvs=>Zp l3 [110,114,109] vs)=_
    rw[w5];rfl
   ·refine (Xw (l':=l4) (σ':=σ3) ?_).trans rfl
    show Xu.to (Xi (Xb 9) 112 (Xa (Xb 109) Xe) k l4 σ2) _ _=_
    rw[R2.b.meth hC X4.h9 rfl (show Xh Jx.meths 112=some 813 from rfl) (XK (Xy (show Xh l4 109=some (.int (Xn d.key)) from Yz)) rfl),hc,c1]
  refine x15 (GZ hC R3.b X4 hf3 ⟨by lia,by have:=u2.le;lia⟩ (by rw[hF];exact hrd) (by lia) (.inr ⟨σ1.n,.int d.t,.int d.o,.int (Xn d.key),rfl,by have:=u2.le;lia,by lia,ht3,rfl⟩)) λσ4 v1 v2 v3 v4 v5=>?_
  have b:I1.body k l σ= .ret (.ref (σ3.n + 1)) σ4:=(Xw s0).trans ((Xw (forE.trans (e1.trans (e2.trans (e3.trans e4))))).trans ((Xw s2).trans v1))
  refine ⟨σ4,σ3.n + 1,?_,?_,v4,by have:=u2.le;lia,by lia,by have:=u2.le;lia,by lia,λe he=>by have:=hids e he;have:=u2.le;lia⟩
  ·show Ze (I1.body k l σ)=_
   rw[b];rfl
  ·have:es.filter (λx=> !(([d.key]:List Int).contains x.key))=es.filter (λx=>x.key != d.key):=by
    apply List.filter_congr
    intro x _
    simp [bne]
    rfl
   rw[this]
   exact R3.fld v2 v3 (by lia)
end
section
variable {es:List WE}{key:Int}
theorem I8{κ:Int}:∀{n i:Nat},κ∈OS es res i n↔∃a,i<=a/\a < i + n/\∃e∈es,e.r=res a/\e.key=κ:=by
 intro ux
 induction ux with
 |zero=>
  intro i
  exact ⟨λh=>(by cases h),λ⟨a,h1,h2,_⟩=>by lia⟩
 |succ n ih=>
  intro i
  show κ∈((es.filter λe=>e.r == res i).map (·.key))++OS es res (i + 1) n↔_
  rw[List.mem_append,ih]
  constructor
  ·rintro (h |⟨a,h1,h2,h3⟩)
   ·refine YB (Qb h) λe he hk=>?_
    obtain ⟨h1,h2⟩:=List.mem_filter.mp he
    exact ⟨i,QS _,by lia,e,h1,by simpa using h2,hk⟩
   ·exact ⟨a,by lia,by lia,h3⟩
  ·rintro ⟨a,h1,h2,e,he,hr,hk⟩
   by_cases h:a=i
   ·subst h
    exact .inl (Qc ⟨e,List.mem_filter.mpr ⟨he,by simpa using hr⟩,hk⟩)
   ·exact .inr ⟨a,by lia,by lia,e,he,hr,hk⟩
theorem BL(hn:(es.map (·.key)).Nodup):∀{n i:Nat},(∀a b,i<=a->a < b->b < i + n->res a≠res b)->(OS es res i n).Nodup:=by
 intro ux
 induction ux with
 |zero=>
  intro i h
  exact QP
 |succ n ih=>
  intro i h
  refine List.nodup_append.mpr ⟨List.Nodup.sublist (List.Sublist.map _ List.filter_sublist) hn,ih λa b h1 h2 h3=>h a b (by lia) h2 (by lia),λx hx y hy hxy=>?_⟩
  subst hxy
  refine YB (Qb hx) λe he hk=>?_
  obtain ⟨h1,h2⟩:=List.mem_filter.mp he
  refine YO (I8.mp hy) λa h3 h4 zz1=>?_;refine YO zz1 λe' he' hr hk'=>?_
  have:e=e':=D6 hn h1 he' (hk.trans hk'.symm)
  subst this
  have h2':e.r=res i:=by simpa using h2
  exact h i a (QS _) (by lia) (by lia) (h2'.symm.trans hr)
theorem Xfr:∀{n i:Nat},(OS es res i n).length<=n * es.length:=by
 intro n
 induction n with
 |zero=>exact λ{i}=>Rg _
 |succ n ih=>
  intro i
  show (((es.filter λe=>e.r == res i).map (·.key))++OS es res (i + 1) n).length<=_
  rw[Qw,Qs,Nat.succ_mul,Nat.add_comm]
  exact Nat.add_le_add ih (QT _ es)
theorem Xc6{N:LI}(hn:(es.map (·.key)).Nodup)(hk:kl.Nodup)(hs:∀κ∈kl,∃e∈es,e.key=κ)
  (h:(dk=[]/\∀e∈es,JP F e.t N=some false)∨∃d∈es,dk=[d.key]/\d.key∈kl/\JP F d.t N=some true/\ZD G 4 d.t (Xn 16)=some (Xn d.r)/\∀e∈es,e≠d->JP F e.t N=some false):
  (dk=[]/\∀a,a < kl.length->∃e∈es,kl[a]?=some e.key/\JP F e.t N=some false)∨
   ∃i d,dk=[d.key]/\d∈es/\i < kl.length/\kl[i]?=some d.key/\JP F d.t N=some true/\ZD G 4 d.t (Xn 16)=some (Xn d.r)/\∀a,a < kl.length->a≠i->∃e∈es,kl[a]?=some e.key/\JP F e.t N=some false:=by
 rcases h with ⟨h1,h2⟩ |⟨d,hd,h1,h2,h3,h4,h5⟩
 ·refine .inl ⟨h1,λa ha=>?_⟩
  refine YB (hs _ (List.getElem_mem ha)) λe he hk=>?_
  exact ⟨e,he,by rw[Qq ha,hk],h2 e he⟩
 ·refine x11 (List.mem_iff_getElem.mp h2) λi zz2=>?_;obtain ⟨hi,hki⟩:=zz2
  refine .inr ⟨i,d,h1,hd,hi,by rw[Qq hi,hki],h3,h4,λa ha hne=>?_⟩
  refine YB (hs _ (List.getElem_mem ha)) λe he hke=>?_
  refine ⟨e,he,by rw[Qq ha,hke],h5 e he ?_⟩
  rintro rfl
  exact hne ((List.getElem_inj hk).mp (hke.symm.trans hki.symm))
theorem Xdb:∀(t:List (Nat×Int)),eqT t t=true
 | []=>rfl
 |(i,a)::r=>by
  show (Nat.beq i i&&(decide (a=a)&&eqT r r))=true
  rw[QI,Qo rfl,Xdb r];rfl
theorem XaV{t t':List (Nat×Int)}{c c':Int}{b':Bool}{r:XA}:WP ((t',c',b')::r) t c=bc (eqT t' t) (bc b' (bc (decide (c'<=c)) (some true) (WP r t c)) (bc (decide (c<=c')) (some false) (WP r t c))) (WP r t c):=rfl
theorem XaW{t:List (Nat×Int)}{c:Int}:∀{F:XA}{b:Bool},(t,c,b)∈F->∃b',WP F t c=some b':=by
 intro F
 induction F with
 |nil=>exact λ{b} h=>nomatch h
 |cons x r ih=>
  obtain ⟨t',c',b'⟩:=x
  intro b h
  rw[XaV]
  rcases Qe h with e |e
  ·obtain ⟨e1,e2⟩:=Prod.mk.inj e
   obtain ⟨e2,e3⟩:=Prod.mk.inj e2
   rw[e1,e2,Xdb,Qo (Int.le_refl c')]
   induction b'<;>exact ⟨_,rfl⟩
  ·have hx:=ih e
   induction eqT t' t with
   |false=>exact hx
   |true=>
    induction b' with
    |true=>induction decide (c'<=c)<;>first |exact hx |exact ⟨_,rfl⟩
    |false=>induction decide (c<=c')<;>first |exact hx |exact ⟨_,rfl⟩
theorem XfI{t:List (Nat×Int)}{c:Int}{b:Bool}(H:Xm ρ F)(h:(t,c,b)∈F):WP F t c=some (decide (0<=c + tv ρ t)):=by
 obtain ⟨b',e⟩:=XaW h
 rw[e,Xcv H e]
end
def JF:Tr->Nat->List O->Tr
 |t,_,[]=>t
 |t,i,o::r=>JF (t.set o i) (i + 1) r
theorem Ol:∀{l:List O}{t:Tr}{i j:Nat},j < i->(JF t i l).get j=t.get j
 | [],_,_,_,_=>rfl
 |o::r,t,i,j,h=>(Ol (l:=r) (t:=t.set o i) (i:=i + 1) (by lia)).trans (Tr.get_set_ne (Qz h))
theorem U0:∀{l:List O}{t:Tr}{i d:Nat},d < l.length->i + l.length < 60000->(JF t i l).get (i + d)=l[d]?
 |o::r,t,i,0,_,h=>by
  show (JF (t.set o i) (i + 1) r).get (i + 0)=some o
  rw[Ol (by lia)]
  exact Tr.get_set_eq (by simp only [Qp] at h;lia)
 |o::r,t,i,d + 1,hd,h=>by
  show (JF (t.set o i) (i + 1) r).get (i + (d + 1))=r[d]?
  rw[show i + (d + 1)=i + 1 + d from (QX i 1 d).symm]
  exact U0 (by simp only [Qp] at hd;lia) (by simp only [Qp] at h;lia)
theorem No:∀{l:List O}{t:Tr}{i j:Nat}{o:O},(JF t i l).get j=some o->t.get j=some o∨(i<=j/\j < i + l.length)
 | [],_,_,_,_,h=> .inl h
 |x::r,t,i,j,o,h=>by
  rcases No (l:=r) h with h1 |⟨h1,h2⟩
  ·rcases Tr.set_get h1 with ⟨h3,_⟩ |⟨_,h4⟩
   ·exact .inr ⟨by lia,by simp only [Qp];lia⟩
   ·exact .inl h4
  ·exact .inr ⟨by lia,by simp only [Qp];lia⟩
theorem lt5(h:j < 5):j=0∨j=1∨j=2∨j=3∨j=4:=by lia
noncomputable abbrev E3:=Int×Int×Int
noncomputable def Iu:Nat->List E3->List Nat->List WE
 |j,x::ks,r::rs=>⟨x.1,21 + j,Xn x.2.1,Xn x.2.2,r⟩::Iu (j + 1) ks rs
 |_,_,_=>[]
theorem Nx:∀{ks:List E3}{rs:List Nat}{j:Nat},rs.length=ks.length->(Iu j ks rs).length=ks.length
 | [],_,_,_=>rfl
 |k::ks,r::rs,j,h=>congrArg (· + 1) (Nx (Nat.succ.inj h))
 |_::_,[],_,h=>by injection h
theorem U7:∀{ks:List E3}{rs:List Nat}{j:Nat},rs.length=ks.length->(Iu j ks rs).map (·.key)=ks.map (·.1)
 | [],_,_,_=>rfl
 |k::ks,r::rs,j,h=>congrArg (k.1::·) (U7 (Nat.succ.inj h))
 |_::_,[],_,h=>by injection h
theorem XaM:∀{ks:List E3}{rs:List Nat}{j:Nat},rs.length=ks.length->Y2 (Iu j ks rs)=I9 (21 + j) (ks.map (·.1))
 | [],_,_,_=>rfl
 |k::ks,r::rs,j,h=>congrArg ((k.1,V.ref (21 + j))::·) (XaM (j:=j + 1) (Nat.succ.inj h))
 |_::_,[],_,h=>by injection h
theorem KY:∀{es:List WE}{p:Nat},J4 (es.map (·.key)) (es.map (·.r)) p=Y4 es p:=by
 intro ux
 induction ux with
 |nil=>
  intro _
  exact rfl
 |cons e r ih=>
  intro p
  show bc (Nat.beq e.r p) (V.int (Xn e.key)::J4 (r.map (·.key)) (r.map (·.r)) p) (J4 (r.map (·.key)) (r.map (·.r)) p)=_
  rw[ih]
  unfold Y4
  by_cases h:e.r=p
  ·rw[Ra (by simpa using h),h,QI];rfl
  ·rw[QZ (by simpa using h),Yl h]
theorem Xfo:∀{ks:List E3}{rs:List Nat}{j:Nat},rs.length=ks.length->(Iu j ks rs).map (·.r)=rs
 | [],[],_,_=>rfl
 |k::ks,r::rs,j,h=>congrArg (r::·) (Xfo (Nat.succ.inj h))
 |_::_,[],_,h=>by injection h
 | [],_::_,_,h=>by injection h
theorem Us:∀{ks:List E3}{rs:List Nat}{j d:Nat}{e:WE},(Iu j ks rs)[d]?=some e->∃t o,e.id=21 + (j + d)/\e.t=Xn t/\e.o=Xn o/\ks[d]?=some (e.key,t,o)/\rs[d]?=some e.r:=by
 intro ks
 induction ks with
 |nil=>exact λh=>Xx h
 |cons x ks ih=>
  intro rs j d e h
  induction rs with
  |nil=>exact Xx h
  |cons r rs _=>induction d with
   |zero=>obtain rfl:=QV h;exact ⟨x.2.1,x.2.2,rfl,rfl,rfl,rfl,rfl⟩
   |succ d _=>
    refine Gw (ih (j:=j + 1) (show (Iu (j + 1) ks rs)[d]?=some e from h)) λt o h1 h2 h3 h4 h5=>?_
    exact ⟨t,o,by rw[h1,Nat.add_assoc j 1 d,Nat.add_comm 1 d],h2,h3,h4,h5⟩
theorem Un{ks:List Int}:∀{n j p:Nat},p < n->(Z5 ks rs j n)[p]?=some (.list (J4 ks rs (j + p)))
 |n + 1,j,0,_=>rfl
 |n + 1,j,p + 1,h=>by
  show (Z5 ks rs (j + 1) n)[p]?=_
  rw[Un (by lia),show j + 1 + p=j + (p + 1) from QX j 1 p]
noncomputable def NR:List E3->List O
 | []=>[]
 |(_,t,o)::r=> .tup [.int (Xn t),.int (Xn o)]::NR r
theorem Wi:∀(ks:List E3),(NR ks).length=ks.length
 | []=>rfl
 |_::r=>congrArg (· + 1) (Wi r)
theorem Be:∀{ks:List E3}{p:Nat}{k t o:Int},ks[p]?=some (k,t,o)->(NR ks)[p]?=some (.tup [.int (Xn t),.int (Xn o)]):=by
 intro ks
 induction ks with
 |nil=>exact λh=>Xx h
 |cons x ks ih=>
  intro p k t o h
  induction p with
  |zero=>obtain rfl:=QV h;rfl
  |succ p _=>exact ih (p:=p) h
def Ga(es:List E3)(rs:List Nat)(rd:V)(g:Int):List O:=
 .flds 842 (Zu rd (Xn g)):: .inst 842 0:: .list (J2 5 16):: .list []:: .idict (I9 21 (es.map (·.1)))::(Z5 (es.map (·.1)) rs 0 16++NR es)
theorem Zt(es:List E3)(rs:List Nat)(rd:V)(g:Int):(Ga es rs rd g).length=21 + es.length:=by
 unfold Ga
 simp only [Qp,Qw,XN,Wi]
 lia
theorem NS{es:List E3}{g:Int}{p:Nat}(h:p < 16):(Ga es rs rd g)[5 + p]?=some (.list (J4 (es.map (·.1)) rs p)):=by
 rw[Nat.add_comm 5 p]
 show (Z5 (es.map (·.1)) rs 0 16++NR es)[p]?=_
 rw[List.getElem?_append_left (by rw[XN];exact h),Un h,QM]
theorem Kx{es:List E3}{g:Int}{p:Nat}{k t o:Int}(h:es[p]?=some (k,t,o)):(Ga es rs rd g)[21 + p]?=some (.tup [.int (Xn t),.int (Xn o)]):=by
 rw[show 21 + p=(16 + p) + 5 from QX 16 5 p]
 show (Z5 (es.map (·.1)) rs 0 16++NR es)[16 + p]?=_
 rw[List.getElem?_append_right (by rw[XN];exact Nat.le_add_right ..),XN,show 16 + p - 16=p from Nat.add_sub_cancel_left ..,Be h]
def Oj(es:List E3)(rs:List Nat)(rd:V)(g:Int):St:=⟨JF .nil 0 (Ga es rs rd g),21 + es.length⟩
theorem ZA{es:List E3}{g:Int}(hl:es.length<=100)(h:j < 21 + es.length):(Oj es rs rd g).h.get j=(Ga es rs rd g)[j]?:=by
 have:=U0 (l:=Ga es rs rd g) (t:= .nil) (i:=0) (d:=j) (by rw[Zt];exact h) (by rw[Zt];lia)
 rw[QM] at this
 exact this
theorem Dl{es:List E3}{g:Int}(hl:es.length<=100)(h:(Oj es rs rd g).h.get j=some o):(Ga es rs rd g)[j]?=some o:=by
 rcases No (l:=Ga es rs rd g) h with h1 |⟨h1,h2⟩
 ·exact Xx h1
 ·rw[Zt,QM] at h2
  rw[←ZA hl h2];exact h
theorem Dx:∀{ks:List E3}{rs:List Nat}{j:Nat},((Iu j ks rs).map (·.id)).Nodup
 | [],_,_=>QP
 |_::_,[],_=>QP
 |k::ks,r::rs,j=>by
  refine List.nodup_cons.mpr ⟨λhm=>?_,Dx⟩
  refine YB (Qb hm) λe he hq=>?_
  obtain ⟨d,hd⟩:=List.mem_iff_getElem?.mp he
  refine Y5 (Us hd) λ_ _ this _=>?_
  have hq':e.id=21 + j:=hq
  lia
theorem XaB{es:List E3}{g:Int}(hl:es.length<=100)(hr:rs.length=es.length)(hk:(es.map (·.1)).Nodup)(h16:∀r∈rs,r < 16):RW (Oj es rs rd g) (Iu 0 es rs) rd (Xn g) where
 h0:=by rw[ZA hl (by lia)];rfl
 h1:=by rw[ZA hl (by lia)];rfl
 h2:=by rw[ZA hl (by lia)];rfl
 h3:=by rw[ZA hl (by lia)];rfl
 h4:=by rw[ZA hl (by lia),XaM hr];rfl
 sl p hp:=by
  rw[ZA hl (by lia),NS hp]
  have:=KY (es:=Iu 0 es rs) (p:=p)
  rw[U7 hr,Xfo hr] at this
  rw[this]
 tp e he:=by
  obtain ⟨d,hd⟩:=List.mem_iff_getElem?.mp he
  refine Gw (Us hd) λt o h1 h2 h3 h4 h5=>?_
  have hlt:d < es.length:=(Qa h4).1
  rw[h1,h2,h3,QM,ZA hl (by lia),Kx h4]
 ids e he:=by
  obtain ⟨d,hd⟩:=List.mem_iff_getElem?.mp he
  refine Gw (Us hd) λt o h1 h2 h3 h4 h5=>?_
  have hlt:d < es.length:=(Qa h4).1
  show 21<=e.id/\e.id < 21 + es.length
  lia
 nd:=by rw[U7 hr];exact hk
 ndi:=Dx
 rs e he:=by
  obtain ⟨d,hd⟩:=List.mem_iff_getElem?.mp he
  refine Gw (Us hd) λt o h1 h2 h3 h4 h5=>?_
  exact h16 _ (QN h5)
 n1:=Nat.le_add_right _ _
 len:=by rw[Nx hr];exact hl
section
variable {ρ ρ':Nat->Int}{a1 a2:List Rn}
def VT(ρ:Nat->Int)(a1:List Rn)(ρ':Nat->Int)(a2:List Rn)(v v':V):Prop:=∀y,VR ρ a1 v y->VR ρ' a2 v' y
theorem VT.int{x x':LI}(h:x.val ρ=x'.val ρ'):VT ρ a1 ρ' a2 (.int x) (.int x'):=λy r=>by
 refine r.intF λz t e=>?_
 exact .int _ _ _ (h.symm.trans e)
theorem VT.ref{i':Nat}(h:∀b,a1[i]?=some b->a2[i']?=some b):VT ρ a1 ρ' a2 (.ref i) (.ref i'):=λy r=>by
 refine r.refE λa e=>?_
 exact .ref _ _ (h _ e)
theorem VT.none:VT ρ a1 ρ' a2 .none .none:=λy r=>by refine r.noneE ?_;exact .none
inductive DE(ρ:Nat->Int)(a1:List Rn)(ρ':Nat->Int)(a2:List Rn):List V->List V->Prop
 |nil:DE ρ a1 ρ' a2 [] []
 |cons {v v' l l':_}:VT ρ a1 ρ' a2 v v'->DE ρ a1 ρ' a2 l l'->DE ρ a1 ρ' a2 (v::l) (v'::l')
theorem DE.go{l l':List V}(h:DE ρ a1 ρ' a2 l l'):∀{ys},YH ρ a1 l ys->YH ρ' a2 l' ys:=by
 induction h with
 |nil=>intro ys r;refine r.nilE ?_;exact .nil
 |cons h _ ih=>intro ys r;cases r with |cons r1 r2=>exact .cons (h _ r1) (ih r2)
inductive FTs(ρ:Nat->Int)(a1:List Rn)(ρ':Nat->Int)(a2:List Rn):List (Nat×V)->List (Nat×V)->Prop
 |nil:FTs ρ a1 ρ' a2 [] []
 |cons {n v v' l l':_}:VT ρ a1 ρ' a2 v v'->FTs ρ a1 ρ' a2 l l'->FTs ρ a1 ρ' a2 ((n,v)::l) ((n,v')::l')
theorem FTs.go{l l':List (Nat×V)}(h:FTs ρ a1 ρ' a2 l l'):(∀{ys},Gz ρ a1 l ys->Gz ρ' a2 l' ys)/\l'.map (·.1)=l.map (·.1):=by
 induction h with
 |nil=>exact ⟨λr=>by cases r;exact .nil,rfl⟩
 | @cons n _ _ _ _ h _ ih=>exact ⟨λr=>by cases r with |cons r0 r1 r2=>exact .cons r0 (h _ r1) (ih.1 r2),congrArg (n::·) ih.2⟩
inductive ITs(ρ:Nat->Int)(a1:List Rn)(ρ':Nat->Int)(a2:List Rn):List (Int×V)->List (Int×V)->Prop
 |nil:ITs ρ a1 ρ' a2 [] []
 |cons {n v v' l l':_}:VT ρ a1 ρ' a2 v v'->ITs ρ a1 ρ' a2 l l'->ITs ρ a1 ρ' a2 ((n,v)::l) ((n,v')::l')
theorem ITs.go{l l':List (Int×V)}(h:ITs ρ a1 ρ' a2 l l'):∀{ys},DB ρ a1 l ys->DB ρ' a2 l' ys:=by
 induction h with
 |nil=>intro ys r;cases r;exact .nil
 |cons h _ ih=>intro ys r;cases r with |cons r1 r2=>exact .cons (h _ r1) (ih r2)
inductive OT(ρ:Nat->Int)(a1:List Rn)(ρ':Nat->Int)(a2:List Rn):O->O->Prop
 |inst {c d d':_}:(∀b,a1[d]?=some b->a2[d']?=some b)->OT ρ a1 ρ' a2 (.inst c d) (.inst c d')
 |flds {c:Nat} {l l':List (Nat×V)}:FTs ρ a1 ρ' a2 l l'->OT ρ a1 ρ' a2 (.flds c l) (.flds c l')
 |list {l l':_}:DE ρ a1 ρ' a2 l l'->OT ρ a1 ρ' a2 (.list l) (.list l')
 |tup {l l':_}:DE ρ a1 ρ' a2 l l'->OT ρ a1 ρ' a2 (.tup l) (.tup l')
 |idict {l l':_}:ITs ρ a1 ρ' a2 l l'->OT ρ a1 ρ' a2 (.idict l) (.idict l')
theorem OT.go(x:OT ρ a1 ρ' a2 o o')(r:JR ρ a1 h a o):JR ρ' a2 h a o':=by
 induction x with
 |inst e=>refine YB r λdx e1 e2=>?_;exact ⟨dx,e _ e1,e2⟩
 |flds e=>
  refine x24 r λes n e1 e2 e3 zz3=>?_;refine YB zz3 λcl e4 e5=>?_
  obtain ⟨g1,g2⟩:=e.go
  refine ⟨es,n,e1,g1 e2,by rw[g2];exact e3,cl,e4,λp hp=>?_⟩
  have hm:=QC (f:=λx:Nat×V=>x.1) hp
  rw[g2] at hm
  refine YB (Qb hm) λq hq hqe=>?_
  rw[←hqe];exact e5 q hq
 |list e=>refine Y5 r λvs n e1 e2=>?_;exact ⟨vs,n,e1,e.go e2⟩
 |tup e=>refine Y5 r λvs n e1 e2=>?_;exact ⟨vs,n,e1,e.go e2⟩
 |idict e=>refine Iv r λh0 zz4=>?_;refine UB zz4 λo kvs e1 e2 e3=>?_;exact ⟨h0,o,kvs,e1,e2,e.go e3⟩
theorem DE.ints:∀{ks:List Int},DE ρ a1 ρ' a2 (XF ks) (XF ks)
 | []=> .nil
 |k::ks=> .cons (.int (by rw[Xs,Xs])) DE.ints
theorem DE.refsEq(h:∀i b,i < 21->a1[i]?=some b->a2[i]?=some b):∀{n j:Nat},j + n<=21->DE ρ a1 ρ' a2 (J2 j n) (J2 j n):=by
 intro ux
 induction ux with
 |zero=>
  intro _ _
  exact .nil
 |succ n ih=>
  intro j hj
  exact .cons (.ref λb=>h j b (by lia)) (ih (by lia))
theorem On:∀{ks:List Int}{rs:List Nat}{p:Nat},∃l,J4 ks rs p=XF l
 | [],_,_=>⟨[],rfl⟩
 |_::_,[],_=>⟨[],rfl⟩
 |k::ks,r::rs,p=>by
  obtain ⟨l,e⟩:=On (ks:=ks) (rs:=rs) (p:=p)
  show ∃l,bc (Nat.beq r p) (V.int (Xn k)::J4 ks rs p) (J4 ks rs p)=XF l
  induction Nat.beq r p with
  |true=>exact ⟨k::l,congrArg (V.int (Xn k)::·) e⟩
  |false=>exact ⟨l,e⟩
end
def Z3:List Rn->Nat->Rn->Option Nat
 | [],_,_=>none
 |x::r,j,b=>if x=b then some j else Z3 r (j + 1) b
theorem ZX:∀{l:List Rn}{j:Nat}{b:Rn},Z3 l j b≠none->b∈l:=by
 intro ux
 induction ux with
 |nil=>
  intro _ _ h
  exact absurd rfl h
 |cons x r ih=>
  intro j b h
  replace h:(if x=b then some j else Z3 r (j + 1) b)≠none:=h
  by_cases e:x=b
  ·rw[e];exact Ql
  ·rw[if_neg e] at h;exact Qm _ (ih h)
theorem Ni:∀{l:List Rn}{j d:Nat}{b:Rn},l.Nodup->l[d]?=some b->Z3 l j b=some (j + d):=by
 intro l
 induction l with
 |nil=>exact λ_ h=>Xx h
 |cons x r ih=>
  intro j d b hn h
  show (if x=b then some j else Z3 r (j + 1) b)=_
  induction d with
  |zero=>
   obtain rfl:=QV h
   rw[if_pos rfl];rfl
  |succ d _=>
   refine Iv (List.nodup_cons.mp hn) λh1 h2=>?_
   rw[if_neg λe=>h1 (by rw[e];exact QN (show r[d]?=some b from h)),ih h2 (show r[d]?=some b from h),Nat.add_assoc,Nat.add_comm 1 d]
def e3(ρ:Nat->Int)(es:List (Int×LI×Int)):List E3:=es.map λe=>(e.1,e.2.1.val ρ,e.2.2)
def UZ(ρ:Nat->Int):Option LI->V
 |some t=> .int (Xn (t.val ρ))
 |none=> .none
theorem XdS(R:Rp C Ro Rq σ h){es:List (Int×LI×Int)}{r:Option LI}{g:Int}(W:WR C.ρ Rq h i a es r g)(hlen:es.length<=40):
  ∃adw rs,rs.length=(e3 C.ρ es).length/\(∀x∈rs,x < 16)/\(∀(d:Nat)(k t o:Int)(p:Nat),(e3 C.ρ es)[d]?=some (k,t,o)->rs[d]?=some p->t % 16=(p:Int))/\adw[1]?=some a/\(∀b∈adw,Rq b=some i)/\Rp C adw (Z3 adw 0) (Oj (e3 C.ρ es) rs (UZ C.ρ r) g) h:=by
 refine x36 W λρw adw rs L h1 h2 h3 h4 h5=>?_
 have le:(e3 C.ρ es).length=es.length:=Qs _
 have lk:(e3 C.ρ es).map (·.1)=es.map (·.1):=by unfold e3;rw[List.map_map];rfl
 refine ⟨adw,rs,by rw[le];exact L.res.1,λx hx=>?_,λd k t o p hd hp=>?_,h4,h3,⟨by rw[h1];show _=21 + _;rw[le],λb o e=>?_,R.keep,R.big,λj o e=>?_⟩⟩
 ·obtain ⟨d,hd⟩:=List.mem_iff_getElem?.mp hx
  have hl:d < es.length:=by rw[←L.res.1];exact (Qa hd).1
  exact (L.res.2 d es[d].1 es[d].2.1 es[d].2.2 x (Qq hl) hd).1
 ·unfold e3 at hd
  rw[QE] at hd
  induction q:es[d]? with
  |none=>rw[q] at hd;exact Xx hd
  |some x=>
   rw[q] at hd
   obtain ⟨k',t',o'⟩:=x
   cases hd
   exact (L.res.2 d k' t' o' p q hp).2
 ·induction q:Z3 adw 0 b with
  |none=>rfl
  |some z=>
   have:=h3 b (ZX (l:=adw) (j:=0) (by rw[q];nofun))
   rw[R.old b o e] at this
   exact Xx this
 ·replace e:=Dl (by rw[le];lia) e
  have key:∀o0,(mkW (es.map (·.1)) rs r.isSome)[j]?=some o0->OT ρw adw C.ρ adw o0 o->∃b,adw[j]?=some b/\Z3 adw 0 b=some j/\OR C.ρ adw (Z3 adw 0) h j b o:=λo0 e0 t=>by
   refine YB (h5 j o0 e0) λb f1 f2=>?_
   refine ⟨b,f1,?_,(t.go f2).or⟩
   rw[Ni h2 f1,QM]
  have hj:j < 21 + es.length:=by
   have:=(Qa e).1
   rw[Zt,le] at this;exact this
  by_cases c5:j < 5
  ·have:j=0∨j=1∨j=2∨j=3∨j=4:=lt5 (by assumption)
   rcases this with rfl |rfl |rfl |rfl |rfl
   ·obtain rfl:=QV e
    refine key _ rfl (.flds (.cons (.int (by rw[Xs,Xs])) (.cons (.ref λb hb=>hb) (.cons (.ref λb hb=>hb) (.cons (.ref λb hb=>hb) (.cons ?_ (.cons (.int ?_) .nil)))))))
    ·induction r with
     |none=>exact .none
     |some t=>
      refine .int ?_
      rw[Xs,←L.reached t rfl]
      unfold LI.val tv tv;simp
    ·rw[Xs,←L.given]
     unfold LI.val tv tv;simp
   ·obtain rfl:=QV e
    exact key _ rfl (.inst λb hb=>hb)
   ·obtain rfl:=QV e
    exact key _ rfl (.list (DE.refsEq (λ_ b _ hb=>hb) (by decide)))
   ·obtain rfl:=QV e
    exact key _ rfl (.list .nil)
   ·obtain rfl:=QV e
    refine key _ rfl (.idict ?_)
    rw[lk]
    have:∀(ks:List Int)(j:Nat),ITs ρw adw C.ρ adw (I9 j ks) (I9 j ks):=by
     intro ks
     induction ks with
     |nil=>intro j;exact .nil
     |cons k ks ih=>intro j;exact .cons (.ref λb hb=>hb) (ih _)
    exact this _ _
  ·by_cases c21:j < 21
   ·obtain ⟨p,rfl⟩:∃p,j=5 + p:=Rh (Nat.le_of_not_lt (by assumption))
    have h16:p < 16:=Nat.lt_of_add_lt_add_left (show 5 + p < 5 + 16 from c21)
    rw[NS h16,lk] at e
    obtain rfl:=QV e
    have e0:(mkW (es.map (·.1)) rs r.isSome)[5 + p]?=some (.list (J4 (es.map (·.1)) rs p)):=by
     rw[Nat.add_comm 5 p]
     show (Z5 (es.map (·.1)) rs 0 16++UT 0 (es.map (·.1)))[p]?=_
     rw[List.getElem?_append_left (by rw[XN];exact h16),Un h16,QM]
    obtain ⟨l,hl⟩:=On (ks:=es.map (·.1)) (rs:=rs) (p:=p)
    exact key _ e0 (by rw[hl];exact .list DE.ints)
   ·obtain ⟨p,rfl⟩:∃p,j=21 + p:=Rh (Nat.le_of_not_lt (by assumption))
    have hp:p < es.length:=Nat.lt_of_add_lt_add_left hj
    obtain ⟨k,t,o',q⟩:∃k t o',es[p]?=some (k,t,o'):=⟨es[p].1,es[p].2.1,es[p].2.2,Qq hp⟩
    have q3:(e3 C.ρ es)[p]?=some (k,t.val C.ρ,o'):=by unfold e3;rw[QE,q];rfl
    rw[Kx q3] at e
    obtain rfl:=QV e
    have mt:∀{ks:List Int}{j p:Nat},p < ks.length->(UT j ks)[p]?=some (.tup [.int ⟨0,[(2 * (j + p),1)]⟩,.int ⟨0,[(2 * (j + p) + 1,1)]⟩]):=by
     intro ks
     induction ks with
     |nil=>intro j p h;cases h
     |cons k ks ih=>
      intro j p h
      induction p with
      |zero=>rfl
      |succ p=>
       show (UT (j + 1) ks)[p]?=_
       rw[ih (by simp only [Qp] at h;lia),show j + 1 + p=j + (p + 1) from QX j 1 p]
    have e0:(mkW (es.map (·.1)) rs r.isSome)[21 + p]?=some (.tup [.int ⟨0,[(2 * p,1)]⟩,.int ⟨0,[(2 * p + 1,1)]⟩]):=by
     rw[show 21 + p=(16 + p) + 5 from QX 16 5 p]
     show (Z5 (es.map (·.1)) rs 0 16++UT 0 (es.map (·.1)))[16 + p]?=_
     rw[List.getElem?_append_right (by rw[XN];exact Nat.le_add_right ..),XN,show 16 + p - 16=p from Nat.add_sub_cancel_left ..,mt (by rw[Qs];exact hp),QM]
    obtain ⟨l1,l2⟩:=L.ent p k t o' q
    refine key _ e0 (.tup (.cons (.int ?_) (.cons (.int ?_) .nil)))
    ·rw[Xs,←l1];unfold LI.val tv tv;simp
    ·rw[Xs,←l2];unfold LI.val tv tv;simp
theorem Bw{ks:List Int}{b:Bool}{p:Nat}(h:p < 16):(mkW ks rs b)[5 + p]?=some (.list (J4 ks rs p)):=by
 rw[Nat.add_comm 5 p]
 show (Z5 ks rs 0 16++UT 0 ks)[p]?=_
 rw[List.getElem?_append_left (by rw[XN];exact h),Un h,QM]
theorem Df:∀{ks:List Int}{j p:Nat},p < ks.length->(UT j ks)[p]?=some (.tup [.int ⟨0,[(2 * (j + p),1)]⟩,.int ⟨0,[(2 * (j + p) + 1,1)]⟩])
 |_::ks,j,0,_=>rfl
 |_::ks,j,p + 1,h=>by
  show (UT (j + 1) ks)[p]?=_
  rw[Df (by simp only [Qp] at h;lia),show j + 1 + p=j + (p + 1) from QX j 1 p]
theorem Xfg{ks:List Int}{b:Bool}{p:Nat}(h:p < ks.length):(mkW ks rs b)[21 + p]?=some (.tup [.int ⟨0,[(2 * p,1)]⟩,.int ⟨0,[(2 * p + 1,1)]⟩]):=by
 rw[show 21 + p=(16 + p) + 5 from QX 16 5 p]
 show (Z5 ks rs 0 16++UT 0 ks)[16 + p]?=_
 rw[List.getElem?_append_right (by rw[XN];exact Nat.le_add_right ..),XN,show 16 + p - 16=p from Nat.add_sub_cancel_left ..,Df h,QM]
theorem IB{m:Nat}:LI.val ρ ⟨0,[(m,1)]⟩=ρ m:=by unfold LI.val tv tv;simp
noncomputable def M5(ρ:Nat->Int)(es:List WE)(rv g:Int)(m:Nat):Int:=bc (Nat.beq m 100) rv (bc (Nat.beq m 101) g (oc es[m / 2]? 0 λe=>bc (Nat.beq (m % 2) 0) (e.t.val ρ) (e.o.val ρ)))
theorem Xop{d:Nat}(h:d < 40):2 * d + 1 < 100:=by lia
theorem Xk3{es:List WE}{rv g:Int}{d:Nat}{e:WE}(hd:d < 40)(he:es[d]?=some e):M5 ρ es rv g (2 * d)=e.t.val ρ:=by
 have h:=Nat.lt_of_succ_lt (Xop hd)
 unfold M5
 rw[Yl (Qz h),Yl (Qz (Nat.lt_succ_of_lt h)),Nat.mul_div_cancel_left d (by decide:0 < 2),he,Nat.mul_mod_right];rfl
theorem Xk2{es:List WE}{rv g:Int}{d:Nat}{e:WE}(hd:d < 40)(he:es[d]?=some e):M5 ρ es rv g (2 * d + 1)=e.o.val ρ:=by
 have h:=Xop hd
 unfold M5
 rw[Yl (Qz h),Yl (Qz (Nat.lt_succ_of_lt h)),show (2 * d + 1) / 2=d from Nat.mul_add_div (by decide:0 < 2) d 1,he,Nat.mul_add_mod];rfl
theorem NA{own'':Rn->Option Nat}{σw:St}{es:List WE}(R:Rp C Rr Rt σw h')(W:RW σw es rd gv)(ha:Rr[1]?=some a)(hown:∀b n,Rt b=some n->n∈List.range 21++es.map (·.id)->own'' b=some i)(hlen:es.length<=40)
  {esG:List (Int×LI×Int)}{r:Option LI}{g:Int}(hr:(rd= .none/\r=none)∨∃z t,rd= .int z/\r=some t/\z.val C.ρ=t.val C.ρ)(hg:gv.val C.ρ=g)
  (hes:es.length=esG.length/\∀(d:Nat)(e:WE),es[d]?=some e->∃t,esG[d]?=some (e.key,t,e.o.val C.ρ)/\t.val C.ρ=e.t.val C.ρ/\t.val C.ρ % 16=(e.r:Int)):
  WR C.ρ own'' h' i a esG r g:=by
 obtain ⟨hl,hes⟩:=hes
 let ad:Nat->Rn:=λn=>(Rr[n]?).getD 0
 have had:∀n o,σw.h.get n=some o->Rr[n]?=some (ad n)/\Rt (ad n)=some n/\OR C.ρ Rr Rt h' n (ad n) o:=λn o e=>by
  refine YO (R.obj n o e) λb f1 f2 f3=>?_
  have:ad n=b:=by show (Rr[n]?).getD 0=b;rw[f1];rfl
  rw[this];exact ⟨f1,f2,f3⟩
 have live:∀n,n < 21->∃o,σw.h.get n=some o:=λn hn=>by
  by_cases h5:n < 5
  ·have:n=0∨n=1∨n=2∨n=3∨n=4:=lt5 (by assumption)
   rcases this with rfl |rfl |rfl |rfl |rfl
   ·exact ⟨_,W.h0⟩
   ·exact ⟨_,W.h1⟩
   ·exact ⟨_,W.h2⟩
   ·exact ⟨_,W.h3⟩
   ·exact ⟨_,W.h4⟩
  ·obtain ⟨p,rfl⟩:∃p,n=5 + p:=Rh (Nat.le_of_not_lt h5)
   exact ⟨_,W.sl p (Nat.lt_of_add_lt_add_left (show 5 + p < 5 + 16 from hn))⟩
 let ids:List Nat:=List.range 21++es.map (·.id)
 have hids:∀n∈ids,∃o,σw.h.get n=some o:=λn hn=>by
  rcases List.mem_append.mp hn with h |h
  ·exact live n (List.mem_range.mp h)
  ·refine YB (Qb h) λe he zz1=>?_;subst zz1
   exact ⟨_,W.tp e he⟩
 let adw:List Rn:=ids.map ad
 have adw_lo:∀n,n < 21->adw[n]?=some (ad n):=λn hn=>by
  show ((List.range 21++es.map (·.id)).map ad)[n]?=_
  rw[QE,List.getElem?_append_left (by simpa using hn),List.getElem?_range hn];rfl
 have adw_hi:∀d e,es[d]?=some e->adw[21 + d]?=some (ad e.id):=λd e he=>by
  show ((List.range 21++es.map (·.id)).map ad)[21 + d]?=_
  rw[QE,List.getElem?_append_right (by simp),List.length_range,show 21 + d - 21=d from Nat.add_sub_cancel_left ..,QE,he];rfl
 have lo:∀n b,n < 21->Rr[n]?=some b->adw[n]?=some b:=λn b hn hb=>by
  rw[adw_lo n hn]
  show some ((Rr[n]?).getD 0)=_
  rw[hb];rfl
 have keys:esG.map (·.1)=es.map (·.key):=by
  refine List.ext_getElem? λd=>?_
  rw[QE,QE]
  induction q:es[d]? with
  |none=>
   have:esG[d]?=none:=List.getElem?_eq_none (by rw[←hl];exact List.getElem?_eq_none_iff.mp q)
   rw[this];rfl
  |some e=>
   refine YB (hes d e q) λt h1 _=>?_
   rw[h1];rfl
 let rv:Int:=match r with
  |some t=>t.val C.ρ
  |none=>0
 let ρw:=M5 C.ρ es rv g
 have l0:∀d e,es[d]?=some e->ρw (2 * d)=e.t.val C.ρ/\ρw (2 * d + 1)=e.o.val C.ρ:=λd e he=>by
  have hd:d < 40:=QY (Qa he).1 hlen
  exact ⟨Xk3 hd he,Xk2 hd he⟩
 refine ⟨ρw,adw,es.map (·.r),⟨λj k t o hj=>?_,⟨by rw[Qs,hl],λj k t o p hj hp=>?_⟩,λt ht=>?_,?_⟩,?_,?_,λb hb=>?_,?_,λj o e=>?_⟩
 ·have hjl:j < es.length:=by rw[hl];exact (Qa hj).1
  refine YO (hes j es[j] (Qq hjl)) λt' h1 h2 h3=>?_
  rw[hj] at h1
  cases h1
  obtain ⟨g1,g2⟩:=l0 j es[j] (Qq hjl)
  exact ⟨g1.trans h2.symm,g2⟩
 ·have hjl:j < es.length:=by rw[hl];exact (Qa hj).1
  refine YO (hes j es[j] (Qq hjl)) λt' h1 h2 h3=>?_
  rw[hj] at h1
  cases h1
  rw[QE,Qq hjl] at hp
  obtain rfl:=QV hp
  exact ⟨W.rs _ (List.getElem_mem hjl),h3⟩
 ·subst ht
  rfl
 ·rfl
 ·show ((List.range 21++es.map (·.id)).map ad).length=_
  rw[Qs,Qw,List.length_range,Qs,hl]
 ·refine YN Rt ?_
  show ((ids.map ad).map Rt).Nodup
  have:(ids.map ad).map Rt=ids.map some:=by
   rw[List.map_map]
   refine List.map_congr_left λn hn=>?_
   obtain ⟨o,ho⟩:=hids n hn
   exact (had n o ho).2.1
  rw[this]
  refine List.Pairwise.map some (λ(x y:Nat) (hxy:x≠y) e=>hxy (QV e)) (show ids.Nodup from ?_)
  refine List.nodup_append.mpr ⟨List.nodup_range,W.ndi,λx hx y hy e=>?_⟩
  refine YB (Qb hy) λz hz zz2=>?_;subst zz2
  have h1:=List.mem_range.mp hx
  exact Qz (QY h1 (W.ids z hz).1) e
 ·refine YB (Qb hb) λn hn zz3=>?_;subst zz3
  obtain ⟨o,ho⟩:=hids n hn
  exact hown _ n (had n o ho).2.1 hn
 ·rw[adw_lo 1 (by decide)]
  show some ((Rr[1]?).getD 0)=_
  rw[ha];rfl
 ·rw[keys] at e
  have hj:j < 21 + es.length:=by
   have:=(Qa e).1
   rw[Oa,Qs] at this;exact this
  have key:∀n o0,σw.h.get n=some o0->adw[j]?=some (ad n)->OT C.ρ Rr ρw adw o0 o->OR C.ρ Rr Rt h' n (ad n) o0=JR C.ρ Rr h' (ad n) o0->∃b,adw[j]?=some b/\JR ρw adw h' b o:=λn o0 e0 e1 t e2=>by
   refine ⟨ad n,e1,t.go ?_⟩
   rw[←e2];exact (had n o0 e0).2.2
  by_cases c5:j < 5
  ·have:j=0∨j=1∨j=2∨j=3∨j=4:=lt5 (by assumption)
   rcases this with rfl |rfl |rfl |rfl |rfl
   ·obtain rfl:=QV e
    refine key 0 _ W.h0 (adw_lo 0 (by decide)) (.flds (.cons (.int (by rw[Xs,Xs])) (.cons (.ref λb hb=>lo 2 b (by decide) hb) (.cons (.ref λb hb=>lo 3 b (by decide) hb) (.cons (.ref λb hb=>lo 4 b (by decide) hb) (.cons ?_ (.cons (.int ?_) .nil))))))) rfl
    ·rcases hr with ⟨rfl,rfl⟩ |⟨z,t,rfl,rfl,hz⟩
     ·exact .none
     ·refine .int ?_
      rw[IB,hz]
      show _=M5 C.ρ es (t.val C.ρ) g 100
      rfl
    ·rw[IB,hg]
     show _=M5 C.ρ es rv g 101
     rfl
   ·obtain rfl:=QV e
    exact key 1 _ W.h1 (adw_lo 1 (by decide)) (.inst λb hb=>lo 0 b (by decide) hb) rfl
   ·obtain rfl:=QV e
    exact key 2 _ W.h2 (adw_lo 2 (by decide)) (.list (DE.refsEq (λn b hn hb=>lo n b hn hb) (by decide))) rfl
   ·obtain rfl:=QV e
    exact key 3 _ W.h3 (adw_lo 3 (by decide)) (.list .nil) rfl
   ·obtain rfl:=QV e
    refine key 4 _ W.h4 (adw_lo 4 (by decide)) (.idict ?_) rfl
    have:∀(l:List WE)(m:Nat),(∀d e,l[d]?=some e->adw[21 + (m + d)]?=some (ad e.id)/\Rr[e.id]?=some (ad e.id))->ITs C.ρ Rr ρw adw (Y2 l) (I9 (21 + m) (l.map (·.key))):=by
     intro l
     induction l with
     |nil=>intro m _;exact .nil
     |cons e l ih=>
      intro m hm
      refine .cons (.ref λb hb=>?_) (ih (m + 1) λd e he=>?_)
      ·obtain ⟨h1,h2⟩:=hm 0 e rfl
       rw[h2] at hb
       obtain rfl:=QV hb
       exact h1
      ·have:=hm (d + 1) e he
       rw[show m + (d + 1)=m + 1 + d from (QX m 1 d).symm] at this
       exact this
    exact this es 0 λd e he=>⟨by rw[QM];exact adw_hi d e he,(had e.id _ (W.tp e (QN he))).1⟩
  ·by_cases c21:j < 21
   ·obtain ⟨p,rfl⟩:∃p,j=5 + p:=Rh (Nat.le_of_not_lt (by assumption))
    have h16:p < 16:=Nat.lt_of_add_lt_add_left (show 5 + p < 5 + 16 from c21)
    rw[Bw h16,KY] at e
    obtain rfl:=QV e
    exact key (5 + p) _ (W.sl p h16) (adw_lo _ c21) (.list DE.ints) rfl
   ·obtain ⟨p,rfl⟩:∃p,j=21 + p:=Rh (Nat.le_of_not_lt (by assumption))
    have hp:p < es.length:=by lia
    rw[Xfg (by rw[Qs];exact hp)] at e
    obtain rfl:=QV e
    have q:=Qq hp
    obtain ⟨g1,g2⟩:=l0 p es[p] q
    exact key es[p].id _ (W.tp _ (List.getElem_mem hp)) (adw_hi p _ q) (.tup (.cons (.int (by rw[IB,g1])) (.cons (.int (by rw[IB,g2])) .nil))) rfl
def Im(h:Heap)(Rq nw:Rn->Option Nat)(b:Rn):Option Nat:=if (h.get? b).isSome=true then Rq b else nw b
theorem XZ{nw:Rn->Option Nat}{b:Rn}{o:Obj}(e:h.get? b=some o):Im h Rq nw b=Rq b:=by unfold Im;rw[e];rfl
theorem Jo{nw:Rn->Option Nat}{b:Rn}(e:h.get? b=none):Im h Rq nw b=nw b:=by unfold Im;rw[e];rfl
section
variable {adw Rr:List Rn}{Rt nw:Rn->Option Nat}{σw':St}{esG:List (Int×LI×Int)}{r:Option LI}{g:Int}
theorem Gi(hown:∀b∈adw,Rq b=some i){b:Rn}(h:Rq b≠some i):Z3 adw 0 b=none:=by
 induction q:Z3 adw 0 b with
 |none=>rfl
 |some z=>exact absurd (hown b (ZX (l:=adw) (j:=0) (by rw[q];nofun))) h
theorem XaD(R:Rp C Ro Rq σ h)(hi:Ro[i]?=some a)(hai:Rq a=some i)(halive:∃o,h.get? a=some o)(hown:∀b∈adw,Rq b=some i)(G:XJ (λ_=>False) adw (Z3 adw 0) h Rr Rt h')(R':Rp C Rr Rt σw' h')
  (W:WR C.ρ (Im h Rq nw) h' i a esG r g):XJ (λ_=>False) Ro Rq h Ro (Im h Rq nw) h'/\Rp C Ro (Im h Rq nw) (σ.put i (.wheel esG r g)) h':=by
 refine ⟨⟨Qy,λb o e=>XZ e,λb o e hn _=>G.keep b o e (Gi hown (by rw[hn];nofun)) id,G.live⟩,⟨R.len,λb o e=>?_,λb o e=>?_,R'.big,λj o e=>?_⟩⟩
 ·rw[XZ (R.keep b o e)];exact R.old b o e
 ·exact G.keep b o (R.keep b o e) (Gi hown (by rw[R.old b o e];nofun)) id
 ·rcases Tr.set_get e with ⟨rfl,rfl⟩ |⟨hj,e⟩
  ·obtain ⟨o,ho⟩:=halive
   exact ⟨a,hi,(XZ ho).trans hai,W⟩
  ·refine YO (R.obj j o e) λb f1 f2 f3=>?_
   obtain ⟨y,hy⟩:=f3.live
   refine ⟨b,f1,(XZ hy).trans f2,f3.mono f2 Qy (λb' o' hb' ho'=>?_) λb' hb'=>?_⟩
   ·exact G.keep b' o' ho' (Gi hown (by rw[hb'];exact λq=>hj (QV q))) id
   ·induction q:h.get? b' with
    |none=>rw[q] at hb';exact ff hb'
    |some o'=>exact XZ q
end
theorem Ww:Mk C 0 (XW F G).hook:=λA g f args σ v σ' Ro Rq s fv vs e=>by cases e
theorem UK:Xm ρ []:=λ_ _ _ h=>by cases h
theorem WC:XS ρ []:=λ_ _ _ _ h=>by cases h
section
variable {es esG:List (Int×LI×Int)}{r r':Option LI}{g g':Int}
structure Xj9(ρ:Nat->Int)(es:List WE)(rd:V)(gv:LI)(esG:List (Int×LI×Int))(r:Option LI)(g:Int):Prop where
 hr:(rd= .none/\r=none)∨∃z t,rd= .int z/\r=some t/\z.val ρ=t.val ρ
 hg:gv.val ρ=g
 len:es.length=esG.length
 len40:es.length<=40
 hes:∀(d:Nat)(e:WE),es[d]?=some e->∃t,esG[d]?=some (e.key,t,e.o.val ρ)/\t.val ρ=e.t.val ρ/\t.val ρ % 16=(e.r:Int)
def GG(es:List E3)(rs:List Nat):Prop:=rs.length=es.length/\(∀x∈rs,x < 16)/\∀(d:Nat)(k t o:Int)(p:Nat),es[d]?=some (k,t,o)->rs[d]?=some p->t % 16=(p:Int)
theorem Me(R:Rp C Ro Rq σ h)(hi:σ.h.get i=some (.wheel es r g))(ha:Ro[i]?=some a):WR C.ρ Rq h i a es r g/\Rq a=some i/\∃o,h.get? a=some o:=by
 refine YO (R.obj i _ hi) λb f1 f2 f3=>?_
 rw[ha] at f1
 obtain rfl:=QV f1
 exact ⟨f3,f2,f3.all.2⟩
theorem JJ(O:C.Ok)(Rx:C.cells=[])(Ry:C.cellv=[])(hK:C.K=KF P)(gd:X5 A j)(R:Rp C Ro Rq σ s.heap)(hi:σ.h.get i=some (.wheel es r g))(ha:Ro[i]?=some a)(hlen:es.length<=40)
  {argsW:List V}{args:List Rm}(hargs:∀adw,YH C.ρ adw argsW args)(hv:∀Ru Rz y,VR C.ρ Ru v y->VR C.ρ Rz v y)
  (hrun:∀rs,GG (e3 C.ρ es) rs->∃v' σw' es' rd' gv',run (XW [] []) j (.fn f) (.ref 1::argsW) (Oj (e3 C.ρ es) rs (UZ C.ρ r) g)= .ok v' σw'/\(∀Ro y,VR C.ρ Ro v' y->VR C.ρ Ro v y)/\RW σw' es' rd' gv'/\Xj9 C.ρ es' rd' gv' esG r' g')
  {Q:Result->Rk->Prop}(hq:N0 C Ro Rq s (σ.put i (.wheel esG r' g')) v Q):
  codeAny (model C.prog C.w) A (.call (.ref f) ⟨.ref a::args,[]⟩) Q s:=by
 refine YF (Me R hi ha) λW hai hal=>?_
 refine x26 (XdS R W hlen) λadw rs l1 l2 l3 ha1 hown Rw=>?_
 refine x54 (hrun rs ⟨l1,l2,l3⟩) λv' σw' es' rd' gv' e hvv RW' M=>?_
 have cal:XB C (j + 0) (run (XW [] []) j):=Um Rx O rfl rfl UK WC (Nu O Ry hK) Ww j
 refine cal A gd (.fn f) (.ref 1::argsW) _ _ _ adw (Z3 adw 0) s (.ref f) (.ref a::args) e Rw (.fn f) (.cons (.ref 1 a ha1) (hargs adw)) Q λh' k Rr Rt val G' R' V'=>?_
 have W':WR C.ρ (Im s.heap Rq λb=>if Rt b=none then Rq b else some i) h' i a esG r' g':=by
  refine NA R' RW' (Yb G'.pre ha1) (λb n hb hn=>?_) M.len40 M.hr M.hg ⟨M.len,M.hes⟩
  induction q:s.heap.get? b with
  |none=>
   rw[Jo q,if_neg (by rw[hb];nofun)]
  |some o=>
   rw[XZ q]
   have:=G'.same b o q
   rw[hb] at this
   exact hown b (ZX (l:=adw) (j:=0) (by rw[←this];nofun))
 obtain ⟨G2,R2⟩:=XaD R ha hai hal hown G' R' W'
 exact hq h' k Ro _ val G2 R2 (hv Rr Ro _ (hvv _ _ V'))
end
section
variable {es esG:List (Int×LI×Int)}{r r':Option LI}{g g':Int}
theorem BK(O:C.Ok)(Rx:C.cells=[])(Ry:C.cellv=[])(hK:C.K=KF P)(gd:X5 A j)(R:Rp C Ro Rq σ s.heap)(hi:σ.h.get i=some (.wheel es r g))(ha:Ro[i]?=some a)(hlen:es.length<=40)
  {argsW:List V}{args:List Rm}(hargs:∀adw,YH C.ρ adw argsW args)
  (hrun:∀rs,GG (e3 C.ρ es) rs->∃q σw' es' rd' gv',run (XW [] []) j (.fn f) (.ref 1::argsW) (Oj (e3 C.ρ es) rs (UZ C.ρ r) g)= .ok (.ref q) σw'/\RW σw' es' rd' gv'/\Xj9 C.ρ es' rd' gv' esG r' g'/\σw'.h.get q=some (.list (XF dk))/\21 + es.length<=q/\∀e∈es',e.id≠q)
  {Q:Result->Rk->Prop}(hq:N0 C Ro Rq s ⟨(σ.put i (.wheel esG r' g')).h.set (.list (XF dk)) σ.n,σ.n + 1⟩ (.ref σ.n) Q):
  codeAny (model C.prog C.w) A (.call (.ref f) ⟨.ref a::args,[]⟩) Q s:=by
 refine YF (Me R hi ha) λW hai hal=>?_
 refine x26 (XdS R W hlen) λadw rs l1 l2 l3 ha1 hown Rw=>?_
 refine x56 (hrun rs ⟨l1,l2,l3⟩) λq σw' es' rd' gv' e RW' M hql hq21 hqe=>?_
 have cal:XB C (j + 0) (run (XW [] []) j):=Um Rx O rfl rfl UK WC (Nu O Ry hK) Ww j
 refine cal A gd (.fn f) (.ref 1::argsW) _ _ _ adw (Z3 adw 0) s (.ref f) (.ref a::args) e Rw (.fn f) (.cons (.ref 1 a ha1) (hargs adw)) Q λh' k Rr Rt val G' R' V'=>?_
 refine YO (R'.obj q _ hql) λb f1 f2 f3=>?_
 have hval:val= .ref b:=by
  refine V'.refE λy hy=>?_
  rw[f1] at hy;obtain rfl:=QV hy;rfl
 subst hval
 have hbn:s.heap.get? b=none:=by
  induction z:s.heap.get? b with
  |none=>rfl
  |some o=>
   have h1:=G'.same b o z
   rw[f2] at h1
   have hm:=ZX (l:=adw) (j:=0) (b:=b) (by rw[←h1];nofun)
   obtain ⟨d,hd⟩:=List.mem_iff_getElem?.mp hm
   have nd:adw.Nodup:=by
    refine YN (Z3 adw 0) ?_
    exact (by
     have key:∀d x,adw[d]?=some x->Z3 adw 0 x=some d:=λd x hx=>by
      have hdl:d < 21 + (e3 C.ρ es).length:=by
       have:=(Qa hx).1
       rw[Rw.len] at this;exact this
      have:∃o,(Oj (e3 C.ρ es) rs (UZ C.ρ r) g).h.get d=some o:=by
       rw[ZA (by unfold e3;rw[Qs];lia) hdl]
       exact ⟨_,Qq (by rw[Zt];exact hdl)⟩
      obtain ⟨o,ho⟩:=this
      refine YO (Rw.obj d o ho) λb' g1 g2 _=>?_
      rw[hx] at g1;obtain rfl:=QV g1
      exact g2
     have:adw.map (Z3 adw 0)=(List.range adw.length).map some:=by
      refine List.ext_getElem? λd=>?_
      rw[QE,QE]
      induction z:adw[d]? with
      |none=>
       rw[List.getElem?_eq_none (by rw[List.length_range];exact List.getElem?_eq_none_iff.mp z)];rfl
      |some x=>
       rw[List.getElem?_range (Qa z).1]
       exact congrArg some (key d x z)
     rw[this]
     exact List.Pairwise.map some (λ(x y:Nat) (hxy:x≠y) e=>hxy (QV e)) (show (List.range adw.length).Nodup from List.nodup_range))
   rw[Ni nd hd,QM] at h1
   have:d < 21 + (e3 C.ρ es).length:=by
    have:=(Qa hd).1
    rw[Rw.len] at this;exact this
   have hle:(e3 C.ρ es).length=es.length:=Qs _
   obtain rfl:=QV h1
   lia
 have W':WR C.ρ (Im s.heap Rq λx=>if x=b then some σ.n else if Rt x=none then Rq x else some i) h' i a esG r' g':=by
  refine NA R' RW' (Yb G'.pre ha1) (λx n hx hn=>?_) M.len40 M.hr M.hg ⟨M.len,M.hes⟩
  have hxb:x≠b:=by
   rintro rfl
   rw[f2] at hx
   obtain rfl:=QV hx
   rcases List.mem_append.mp hn with hn |hn
   ·have:=List.mem_range.mp hn;lia
   ·refine YB (Qb hn) λy hy hye=>?_
    exact hqe y hy hye
  induction z:s.heap.get? x with
  |none=>rw[Jo z,if_neg hxb,if_neg (by rw[hx];nofun)]
  |some o=>
   rw[XZ z]
   have:=G'.same x o z
   rw[hx] at this
   exact hown x (ZX (l:=adw) (j:=0) (by rw[←this];nofun))
 obtain ⟨G2,R2⟩:=XaD R ha hai hal hown G' R' W'
 have hlast:(Ro++[b])[σ.n]?=some b:=by rw[←R.len];exact QU
 refine hq h' k (Ro++[b]) _ (.ref b) (G2.trans ⟨Qr _ _,λ_ _ _=>rfl,λ_ _ e _ _=>e,λ_ o e=>⟨o,e⟩⟩) ⟨by rw[Qw,R2.len];rfl,R2.old,R2.keep,R2.big,λn o e=>?_⟩ (.ref _ _ hlast)
 rcases Tr.set_get e with ⟨rfl,rfl⟩ |⟨hj,e⟩
 ·refine ⟨b,hlast,by rw[Jo hbn,if_pos rfl],?_⟩
  exact (OT.go (ρ:=C.ρ) (a1:=Rr) (ρ':=C.ρ) (a2:=Ro++[b]) (.list DE.ints) f3:JR C.ρ (Ro++[b]) h' b (.list (XF dk)))
 ·refine YO (R2.obj n o e) λx g1 g2 g3=>?_
  exact ⟨x,Yb (Qr _ _) g1,g2,g3.mono g2 (Qr _ _) (λ_ _ _ e=>e) λ_ _=>rfl⟩
end
noncomputable abbrev GE:=Int×LI×Int
inductive Y0(ρ:Nat->Int):List WE->List GE->Prop
 |nil:Y0 ρ [] []
 |cons {e x es xs:_}:e.key=x.1->x.2.1.val ρ=e.t.val ρ->e.o.val ρ=x.2.2->x.2.1.val ρ % 16=(e.r:Int)->Y0 ρ es xs->Y0 ρ (e::es) (x::xs)
theorem Y0.wes:∀{es:List GE}{rs:List Nat}{j:Nat},GG (e3 ρ es) rs->Y0 ρ (Iu j (e3 ρ es) rs) es
 | [],rs,j,h=>by
  exact .nil
 |x::es,[],j,h=>by cases h.1
 |x::es,p::rs,j,h=>by
  refine YF h λh1 h2 h3=>?_
  refine .cons rfl (by rw[Xs]) (by rw[Xs]) (h3 0 x.1 (x.2.1.val ρ) x.2.2 p rfl rfl) (Y0.wes ⟨Nat.succ.inj h1,λy hy=>h2 y (Qm _ hy),λd k t o q hd hq=>h3 (d + 1) k t o q hd hq⟩)
theorem Y0.filter{es:List WE}{xs:List GE}(f:Int->Bool)(h:Y0 ρ es xs):Y0 ρ (es.filter λe=>f e.key) (xs.filter λx=>f x.1):=by
 induction h with
 |nil=>exact .nil
 | @cons e x es xs h1 h2 h3 h4 _ ih=>
  induction q:f e.key with
  |true=>rw[Ra (by exact q),Ra (by rw[←h1];exact q)];exact .cons h1 h2 h3 h4 ih
  |false=>rw[QZ (by rw[q];decide),QZ (by rw[←h1,q];decide)];exact ih
theorem Y0.app{es es':List WE}{xs xs':List GE}(h:Y0 ρ es xs)(h':Y0 ρ es' xs'):Y0 ρ (es++es') (xs++xs'):=by
 induction h with
 |nil=>exact h'
 |cons h1 h2 h3 h4 _ ih=>exact .cons h1 h2 h3 h4 ih
theorem Y0.idx{es:List WE}{xs:List GE}(h:Y0 ρ es xs):es.length=xs.length/\∀(d:Nat)(e:WE),es[d]?=some e->∃t,xs[d]?=some (e.key,t,e.o.val ρ)/\t.val ρ=e.t.val ρ/\t.val ρ % 16=(e.r:Int):=by
 induction h with
 |nil=>exact ⟨rfl,λd e q=>by exact Xx q⟩
 | @cons e x es xs h1 h2 h3 h4 _ ih=>
  refine ⟨congrArg (· + 1) ih.1,λd e' q=>?_⟩
  induction d with
  |zero=>
   obtain rfl:=QV q
   exact ⟨x.2.1,by rw[h1,h3];rfl,h2,h4⟩
  |succ d=>exact ih.2 d e' q
def XgX(a:Int):List Int->Bool
 | []=>false
 |b::r=>bc (decide (b=a)) true (XgX a r)
def Bg:List Int->Bool
 | []=>true
 |a::r=> !(XgX a r)&&Bg r
theorem XgY{a:Int}:∀{l:List Int},a∈l->XgX a l=true:=by
 intro ux
 induction ux with
 |cons b r ih=>
  intro h
  show bc (decide (b=a)) true (XgX a r)=true
  by_cases e:b=a
  ·rw[Qo e]
  ·rw[Qn e];exact ih ((Qe h).resolve_left λq=>e q.symm)
 |nil=>
  intro v0
  contradiction
theorem XbK:∀{l:List Int},Bg l=true->l.Nodup:=by
 intro ux
 induction ux with
 |nil=>
  intro _
  exact QP
 |cons a r ih=>
  intro h
  refine b2 h λh1 h2=>?_
  exact List.nodup_cons.mpr ⟨λhm=>(by rw[XgY hm] at h1;cases h1),ih h2⟩
def Xgg(k:Int)(es:List GE):List GE:=es.filter λe=> !(decide (e.1=k))
def Mm(F:XA)(r:Option LI)(T:LI):Bool:=match r with
 |none=>true
 |some z=>(match JP F T z with
  |some false=>true
  |_=>false)
def okW(es:List GE):Bool:=bc (Nat.ble (Uy es) 4) (Bg (es.map (·.1))) false
def Xpq(F:XA)(σ:St)(i:Nat)(k:Int)(T:LI):Option O->Option Xu
 |some (.wheel es r g)=>bc (okW es) (bc (Mm F r T) (some (.ok .none (σ.put i (.wheel (Xgg k es++[(k,T,g + 1)]) r (g + 1))))) none) none
 |_=>none
def B1(σ:St)(i:Nat)(k:Int):Option O->Option Xu
 |some (.wheel es r g)=>bc (okW es) (some (.ok .none (σ.put i (.wheel (Xgg k es) r g)))) none
 |_=>none
theorem WB{es:List GE}(h:okW es=true):es.length<=4/\(es.map (·.1)).Nodup:=by
 obtain ⟨h1,h2⟩:=YR h nofun
 rw[Y6] at h1
 exact ⟨Qv h1,XbK h2⟩
theorem Gc{t:Int}{p:Nat}(h:t % 16=(p:Int)):ZD G 4 (Xn t) (Xn 16)=some (Xn p):=by
 show @Option.rec LI (λ_=>Option LI) (WQ G 4 (Xn t) (Xn 16)) (λr=>some r) (some (Xn (Int.fmod t 16)))=_
 show some (Xn (Int.fmod t 16))=_
 rw[Int.fmod_eq_emod_of_nonneg _ (by decide),h]
theorem NN{a b:Int}:JP F (Xn a) (Xn b)=some (decide (a<=b)):=by
 show some (nn (b - a))=_
 rw[Wj]
 congr 1
 by_cases h:a<=b
 ·rw[Qo h,Qo (by lia)]
 ·rw[Qn h,Qn (by lia)]
theorem Xd7{a b:Int}:Ow F (Xn a) (Xn b)=some (decide (a < b)):=by
 show some (nn ((b - a) + -1))=_
 rw[Wj]
 congr 1
 by_cases h:a < b
 ·rw[Qo h,Qo (by lia)]
 ·rw[Qn h,Qn (by lia)]
theorem Gv{es:List GE}(h:GG (e3 ρ es) rs){e:WE}(he:e∈Iu 0 (e3 ρ es) rs):ZD G 4 e.t (Xn 16)=some (Xn e.r):=by
 obtain ⟨d,hd⟩:=List.mem_iff_getElem?.mp he
 refine Gw (Us hd) λt o h1 h2 h3 h4 h5=>?_
 rw[h2]
 exact Gc (h.2.2 d _ _ _ _ h4 h5)
section
theorem J1{es:List GE}{r:Option LI}{g:Int}(hok:okW es=true)(h:GG (e3 C.ρ es) rs):RW (Oj (e3 C.ρ es) rs (UZ C.ρ r) g) (Iu 0 (e3 C.ρ es) rs) (UZ C.ρ r) (Xn g)/\(Oj (e3 C.ρ es) rs (UZ C.ρ r) g).n=21 + es.length/\es.length<=4:=by
 obtain ⟨h1,h2⟩:=WB hok
 have le:(e3 C.ρ es).length=es.length:=Qs _
 have lk:(e3 C.ρ es).map (·.1)=es.map (·.1):=by unfold e3;rw[List.map_map];rfl
 exact ⟨XaB (by lia) h.1 (by rw[lk];exact h2) h.2.1,by show 21 + _=_;rw[le],h1⟩
theorem Go{r:Option LI}:(UZ C.ρ r= .none/\r=none)∨∃z t,UZ C.ρ r= .int z/\r=some t/\z.val C.ρ=t.val C.ρ:=by
 induction r with
 |none=>exact .inl ⟨rfl,rfl⟩
 |some t=>exact .inr ⟨_,t,rfl,rfl,Xs _ _⟩
theorem Uf{es:List WE}{k:Int}:(es.filter λx=>x.key != k)=es.filter λx=> !(decide (x.key=k)):=by
 apply List.filter_congr
 intro x _
 show (!(x.key == k))=_
 congr 1
set_option tactic.hygienic true
theorem GS(O:C.Ok)(Rx:C.cells=[])(Ry:C.cellv=[])(hK:C.K=KF P)(gd:X5 A 2){Ro Rq σ}(R:Rp C Ro Rq σ s.heap){a:Nat}(ha:Ro[i]?=some a){k:Int}(e:B1 σ i k (σ.h.get i)=some (.ok v σ'))
  {Q:Result->Rk->Prop}(hq:N0 C Ro Rq s σ' v Q):
  codeAny (model C.prog C.w) A (.call (.ref 813) ⟨[.ref a,.int k t],[]⟩) Q s:=by
 induction q:σ.h.get i with
 |none=>rw[q] at e;exact Xx e
 |some o=>
  rw[q] at e
  refine Zx λ_ kk=>?_
  induction o<;>first |exact Xx e |(refine kk ?_;clear kk)
  rename_i es r g
  refine Wg (show bc (okW es) (some (Xu.ok .none (σ.put i (.wheel (Xgg k es) r g)))) none=_ from e) λhok e=>?_
  replace hq:=hq.eqo e
  refine JJ (f:=813) (argsW:=[.int (Xn k)]) (args:=[.int k t]) O Rx Ry hK gd R q ha (by have:=(WB hok).1;lia) (λadw=> .cons (.int _ _ _ (Xs _ _)) .nil) (v:= .none) (λ_ _ _ h=>by refine h.noneE ?_;exact .none) (λrs hrs=>?_) hq
  refine YF (J1 (r:=r) (g:=g) hok hrs) λW0 hn hl=>?_
  refine x15 (Wp (F:=[]) (G:=[]) (j:=1) (key:=k) W0 (by lia) λe he _=>Gv hrs he) λσw' h1 h2 h3 h4 _=>?_
  have rel:=(Y0.wes (j:=0) hrs).filter λx=> !(decide (x=k))
  refine ⟨.none,σw',_,_,_,h1,λ_ _ h=>h,h2,⟨Go,Xs _ _,?_,?_,?_⟩⟩
  ·rw[Uf];exact rel.idx.1
  ·have:=QT (λx:WE=>x.key != k) (Iu 0 (e3 C.ρ es) rs)
   rw[Nx hrs.1,show (e3 C.ρ es).length=es.length from Qs _] at this
   lia
  ·rw[Uf];exact rel.idx.2
theorem XeE(O:C.Ok)(Rx:C.cells=[])(Ry:C.cellv=[])(hK:C.K=KF P)(HF:Xm C.ρ F)(gd:X5 A 2){Ro Rq σ}(R:Rp C Ro Rq σ s.heap){a:Nat}(ha:Ro[i]?=some a){k:Int}{t2:Tok}{z:Int}(hz:T.val C.ρ=z)(e:Xpq F σ i k T (σ.h.get i)=some (.ok v σ'))
  {Q:Result->Rk->Prop}(hq:N0 C Ro Rq s σ' v Q):
  codeAny (model C.prog C.w) A (.call (.ref 799) ⟨[.ref a,.int k t,.int z t2],[]⟩) Q s:=by
 induction q:σ.h.get i with
 |none=>rw[q] at e;exact Xx e
 |some o=>
  rw[q] at e
  refine Zx λ_ kk=>?_
  induction o<;>first |exact Xx e |(refine kk ?_;clear kk)
  rename_i es r g
  refine Wg (show bc (okW es) (bc (Mm F r T) (some (Xu.ok .none (σ.put i (.wheel (Xgg k es++[(k,T,g + 1)]) r (g + 1))))) none) none=_ from e) λhok e=>?_
  refine Wg e λhaf e=>?_
  replace hq:=hq.eqo e
  refine JJ (f:=799) (argsW:=[.int (Xn k),.int (Xn z)]) (args:=[.int k t,.int z t2]) O Rx Ry hK gd R q ha (by have:=(WB hok).1;lia) (λadw=> .cons (.int _ _ _ (Xs _ _)) (.cons (.int _ _ _ (Xs _ _)) .nil)) (v:= .none) (λ_ _ _ h=>by refine h.noneE ?_;exact .none) (λrs hrs=>?_) hq
  refine YF (J1 (r:=r) (g:=g) hok hrs) λW0 hn hl=>?_
  have hp:z % 16=((z % 16).toNat:Int):=by lia
  have haR:Mn [] (UZ C.ρ r) (Xn z):=by
   induction r with
   |none=>exact .inl rfl
   |some y=>
    refine .inr ⟨_,rfl,?_⟩
    rw[NN]
    unfold Mm at haf
    dsimp only at haf
    induction q2:JP F T y with
    |none=>rw[q2] at haf;exact ff haf
    |some b=>
     rw[q2] at haf
     induction b with
     |true=>exact ff haf
     |false=>
      have:=Db HF q2
      rw[←hz,←this]
  refine x24 (Xhn (F:=[]) (G:=[]) (j:=0) (key:=k) W0 (by lia) (by rw[Nx hrs.1,show (e3 C.ρ es).length=es.length from Qs _];lia) (T:=Xn z) (r:=(z % 16).toNat) (λe he _=>Gv hrs he) (Gc hp) (by lia) haR) λσw' id h1 h2 h3 h4=>?_
  have rel:=((Y0.wes (j:=0) hrs).filter λx=> !(decide (x=k))).app (.cons (e:=⟨k,id,Xn z,(Xn g).add ⟨1,[]⟩,(z % 16).toNat⟩) (x:=(k,T,g + 1)) rfl (by rw[Xs,hz]) (by show (LI.val C.ρ ⟨Int.add g 1,[]⟩)=_;unfold LI.val tv;exact Rb _) (by show T.val C.ρ % 16=_;rw[hz];exact hp) .nil)
  refine ⟨.none,σw',_,_,_,h1,λ_ _ h=>h,h2,⟨Go,by show (LI.val C.ρ ⟨Int.add g 1,[]⟩)=_;unfold LI.val tv;exact Rb _,?_,?_,?_⟩⟩
  ·rw[Uf];exact rel.idx.1
  ·have:=QT (λx:WE=>x.key != k) (Iu 0 (e3 C.ρ es) rs)
   rw[Nx hrs.1,show (e3 C.ρ es).length=es.length from Qs _] at this
   rw[Qw]
   show _ + 1<=40
   lia
  ·rw[Uf];exact rel.idx.2
set_option tactic.hygienic false
end
def W3(k:Int):List GE->Option LI
 | []=>none
 |(k',t,_)::r=>bc (decide (k'=k)) (some t) (W3 k r)
def Xj0(σ:St)(i:Nat)(k:Int):Option O->Option Xu
 |some (.wheel es r g)=>bc (okW es) (some (@Option.rec LI (λ_=>Xu) (.ok .none (σ.put i (.wheel es r g))) (λT=> .ok (.int T) (σ.put i (.wheel es r g))) (W3 k es))) none
 |_=>none
def Xgj(F:XA)(N:LI):List GE->Option (List GE)
 | []=>some []
 |x::r=>oc (JP F x.2.1 N) none λb=>oc (Xgj F N r) none λl=>some (bc b (x::l) l)
def NW(F:XA)(r:Option LI)(T:LI):Bool:=match r with
 |none=>true
 |some z=>(match Ow F z T with
  |some true=>Uo F (z.add ⟨1,[]⟩)
  |_=>false)
def Xle(F:XA)(r:Option LI):List GE->Option (List Int)
 | []=>some []
 | [d]=>bc (NW F r d.2.1) (some [d.1]) none
 |_=>none
def XnK(σ:St)(i:Nat)(es:List GE)(N:LI)(g:Int)(dk:List Int):Xu:= .ok (.ref σ.n) ⟨(σ.put i (.wheel (es.filter λx=> !(dk.contains x.1)) (some N) g)).h.set (.list (XF dk)) σ.n,σ.n + 1⟩
def XnJ(F:XA)(σ:St)(i:Nat)(N:LI):Option O->Option Xu
 |some (.wheel es r g)=>bc (okW es) (bc (NW F r N) (oc (Xgj F N es) none λds=>oc (Xle F r ds) none λdk=>some (XnK σ i es N g dk)) none) none
 |_=>none
theorem Xgk(H:Xm ρ F){N:LI}:∀{es ds:List GE},Xgj F N es=some ds->ds=es.filter λx=>decide (x.2.1.val ρ<=N.val ρ):=by
 intro ux
 induction ux with
 |nil=>
  intro ds h
  obtain rfl:=QV h;rfl
 |cons x r ih=>
  intro ds h
  refine Z8 h λb q h=>Z8 h λl q2 h=>?_
  obtain rfl:=QV h
  have hb:=Db H q
  have ih:=ih q2
  induction b with
  |true=>rw[Ra (by rw[←hb]),←ih]
  |false=>rw[QZ (by rw[←hb];decide),←ih]
theorem Y0.left{es:List WE}{xs:List GE}(h:Y0 ρ es xs):∀e∈es,∃x∈xs,e.key=x.1/\x.2.1.val ρ=e.t.val ρ:=by
 induction h with
 |nil=>intro e he;cases he
 |cons h1 h2 h3 h4 _ ih=>
  intro e he
  rcases Qe he with rfl |he
  ·exact ⟨_,Ql,h1,h2⟩
  ·refine YB (ih e he) λx hx h=>?_
   exact ⟨x,Qm _ hx,h⟩
theorem Y0.right{es:List WE}{xs:List GE}(h:Y0 ρ es xs):∀x∈xs,∃e∈es,e.key=x.1/\x.2.1.val ρ=e.t.val ρ/\x.2.1.val ρ % 16=(e.r:Int):=by
 induction h with
 |nil=>intro e he;cases he
 |cons h1 h2 h3 h4 _ ih=>
  intro x hx
  rcases Qe hx with rfl |hx
  ·exact ⟨_,Ql,h1,h2,h4⟩
  ·refine YB (ih x hx) λe he h=>?_
   exact ⟨e,Qm _ he,h⟩
theorem XhN{es:List GE}{e:WE}(he:e∈Iu 0 (e3 ρ es) rs):e.t=Xn (e.t.val ρ):=by
 obtain ⟨d,hd⟩:=List.mem_iff_getElem?.mp he
 refine Gw (Us hd) λt o h1 h2 h3 h4 h5=>?_
 rw[h2,Xs]
theorem Xdh{k:Int}:∀{es:List GE},(W3 k es=none->k∉es.map (·.1))/\∀T,W3 k es=some T->∃o,(k,T,o)∈es:=by
 intro es
 induction es with
 |nil=>exact ⟨λ_=>List.not_mem_nil,λT h=>Xx h⟩
 |cons x r ih=>
  by_cases e:x.1=k
  ·have e1:W3 k (x::r)=some x.2.1:=by show bc (decide (x.1=k)) _ _=_;rw[Qo e]
   rw[e1]
   exact ⟨λh=>snn h,λT h=>⟨x.2.2,by rw[←QV h,←e];exact Ql⟩⟩
  ·have e1:W3 k (x::r)=W3 k r:=by show bc (decide (x.1=k)) _ _=_;rw[Qn e]
   rw[e1]
   exact ⟨λh hm=>(Qe hm).elim (λq=>e q.symm) (ih.1 h),λT h=>(ih.2 T h).elim λo h=>⟨o,Qm _ h⟩⟩
set_option tactic.hygienic true in
theorem Xb5(O:C.Ok)(Rx:C.cells=[])(Ry:C.cellv=[])(hK:C.K=KF P)(gd:X5 A 2){Ro Rq σ}(R:Rp C Ro Rq σ s.heap){a:Nat}(ha:Ro[i]?=some a){k:Int}(e:Xj0 σ i k (σ.h.get i)=some (.ok v σ'))
  {Q:Result->Rk->Prop}(hq:N0 C Ro Rq s σ' v Q):
  codeAny (model C.prog C.w) A (.call (.ref 820) ⟨[.ref a,.int k t],[]⟩) Q s:=by
 induction q:σ.h.get i with
 |none=>rw[q] at e;exact Xx e
 |some o=>
  rw[q] at e
  refine Zx λ_ kk=>?_
  induction o<;>first |exact Xx e |(refine kk ?_;clear kk)
  rename_i es r g
  refine Wg (show bc (okW es) (some (@Option.rec LI (λ_=>Xu) (.ok .none (σ.put i (.wheel es r g))) (λT=> .ok (.int T) (σ.put i (.wheel es r g))) (W3 k es))) none=_ from e) λhok e=>?_
  have hn:=(WB hok).2
  have hl:=(WB hok).1
  have lk:(e3 C.ρ es).map (·.1)=es.map (·.1):=by unfold e3;rw[List.map_map];rfl
  obtain ⟨i1,i2⟩:=Xdh (k:=k) (es:=es)
  induction qf:W3 k es with
  |none=>
   rw[qf] at e
   replace hq:=hq.eqo e
   refine JJ (f:=820) (argsW:=[.int (Xn k)]) (args:=[.int k t]) O Rx Ry hK gd R q ha (by lia) (λadw=> .cons (.int _ _ _ (Xs _ _)) .nil) (v:= .none) (λ_ _ _ h=>by refine h.noneE ?_;exact .none) (λrs hrs=>?_) hq
   refine YF (J1 (r:=r) (g:=g) hok hrs) λW0 hn hl=>?_
   have rel:=(Y0.wes (j:=0) hrs)
   refine ⟨.none,_,_,_,_,BC (F:=[]) (G:=[]) (j:=1) W0 (by rw[U7 hrs.1,lk];exact i1 qf),λ_ _ h=>h,W0,⟨Go,Xs _ _,rel.idx.1,by rw[rel.idx.1];lia,rel.idx.2⟩⟩
  |some T=>
   rw[qf] at e
   replace hq:=hq.eqo e
   obtain ⟨o,ho⟩:=i2 T qf
   refine JJ (f:=820) (argsW:=[.int (Xn k)]) (args:=[.int k t]) O Rx Ry hK gd R q ha (by lia) (λadw=> .cons (.int _ _ _ (Xs _ _)) .nil) (v:= .int T) (λ_ _ _ h=>by cases h with |int _ z t e=>exact .int _ _ _ e) (λrs hrs=>?_) hq
   refine YF (J1 (r:=r) (g:=g) hok hrs) λW0 hn' hl=>?_
   have rel:=(Y0.wes (j:=0) hrs)
   refine x14 (rel.right _ ho) λe0 he0 f1 f2 f3=>?_
   refine x21 (List.append_of_mem he0) λpre post hpp=>?_
   have W1:=W0
   rw[hpp] at W1
   have:=Xb4 (F:=[]) (G:=[]) (j:=1) W1
   rw[show e0.key=k from f1] at this
   refine ⟨.int e0.t,_,_,_,_,this,λRo y h=>?_,W0,⟨Go,Xs _ _,rel.idx.1,by rw[rel.idx.1];lia,rel.idx.2⟩⟩
   cases h with |int _ z t e=>exact .int _ _ _ (f2.trans e)
theorem NX(H:Xm ρ F)(h:NW F (some z) T=true):z.val ρ < T.val ρ/\Uo F (z.add ⟨1,[]⟩)=true:=by
 unfold NW at h
 dsimp only at h
 induction q:Ow F z T with
 |none=>rw[q] at h;exact ff h
 |some b=>
  rw[q] at h
  induction b with
  |false=>exact ff h
  |true=>
   have:=N5 H q
   exact ⟨Qt this.symm,h⟩
theorem Bx{a:Int}(h1: -1099511627776<=a)(h2:a<=1099511627776):Uo [] (Xn a)=true:=by
 show bc (oc (JP [] (Xn (-1099511627776)) (Xn a)) false λb=>b) (oc (JP [] (Xn a) (Xn 1099511627776)) false λb=>b) false=true
 rw[NN,NN,Qo h1,Qo h2]
theorem XdY{es:List WE}{r:Option LI}{g:LI}(h:r=none∨∃z,r=some z/\16<=Nv - z.val C.ρ):DC [] [] j es (UZ C.ρ r) g (Xn Nv) (es.map (·.key)):=by
 intro σ R hn
 have hf:XnQ [] (UZ C.ρ r) (Xn Nv):=by
  rcases h with rfl |⟨z,rfl,hz⟩
  ·exact .inl rfl
  ·refine .inr ⟨_,rfl,?_⟩
   show JP [] (Xn 16) (Xn (Nv - z.val C.ρ))=_
   rw[NN,Qo hz]
 exact ⟨_,_,OE R hf,.new,by show σ.n + 1<=σ.n + 16;lia,QS _,QO _,Tr.get_set_eq (by lia)⟩
theorem Oi{a b:Int}(h:b - a=(n:Int))(h1: -1099511627776<=a)(h2:a<=1099511627776)(hn:n<=60000):Yo [] [.int (Xn a),.int (Xn b)]=some (XI (Xn a) n):=by
 show Nk [] (Xn a) (some (b - a))=_
 rw[h]
 show bc (Uo [] (Xn a)) (bc (Nat.ble n 60000) (some (XI (Xn a) n)) none) none=_
 rw[Bx h1 h2,QD hn]
theorem Xbu{es:List WE}{zv:Int}{g:LI}(h1:zv < Nv)(h2:Nv - zv < 16)(h3: -1099511627776<=zv + 1)(h4:zv + 1<=1099511627776):DC [] [] j es (.int (Xn zv)) g (Xn Nv) (OS es (λa=>((zv + (a:Int)) % 16).toNat) 1 (Nv - zv).toNat):=by
 intro σ R hn
 have hnn:((Nv - zv).toNat:Int)=Nv - zv:=Int.toNat_of_nonneg (by lia)
 refine x26 (OF (F:=[]) (G:=[]) (j:=j) (N:=Xn Nv) (n:=(Nv - zv).toNat) R hn (by
   show JP [] (Xn 16) (Xn (Nv - zv))=_
   rw[NN,Qn (by lia)]) (res:=λa=>((zv + (a:Int)) % 16).toNat) (λa=>by show ((zv + (a:Int)) % 16).toNat < 16;lia) (T:=λa=>Xn (zv + (a:Int))) (λa=>by
   show Xn (zv + ((a + 1:Nat):Int))=Xn ((zv + (a:Int)) + 1)
   congr 1;lia) (by
   show Xn (zv + 1)=Xn (zv + ((1:Nat):Int))
   rfl) (by lia) (by
   show Yo [] [.int (Xn (zv + 1)),.int (Xn (Nv + 1))]=some (XI (Xn (zv + 1)) (Nv - zv).toNat)
   exact Oi (by lia) h3 h4 (by lia)) (λa _ _=>Gc (by
   show (zv + (a:Int)) % 16=(((zv + (a:Int)) % 16).toNat:Int)
   lia))) λσ' q e1 e2 e3 e4 e5 e6=>?_
 exact ⟨σ',q,e1,e2,e3,e4,e5,e6⟩
theorem Xc7(HF:Xm C.ρ F){es:List GE}{W:List WE}{r:Option LI}{N:LI}(hN:N.val C.ρ=Nv){ds:List GE}(hdk:Xle F r ds=some dk)(hdl:ds=es.filter λx=>decide (x.2.1.val C.ρ<=N.val C.ρ))(rel:Y0 C.ρ W es)(hkn:(W.map (·.key)).Nodup)
  (tm:∀e∈W,∀b,(decide (e.t.val C.ρ<=Nv))=b->JP [] e.t (Xn Nv)=some b):
  (dk=[]/\∀e∈W,JP [] e.t (Xn Nv)=some false)∨∃d∈W,dk=[d.key]/\(r=none∨∃z,r=some z/\z.val C.ρ < d.t.val C.ρ)/\d.t.val C.ρ<=Nv/\∀e∈W,e≠d->JP [] e.t (Xn Nv)=some false:=by
 have no:∀e∈W,(∀x∈ds,x.1≠e.key)->JP [] e.t (Xn Nv)=some false:=λe he hx0=>tm e he false (Qn λz=>by
  refine YO (rel.left e he) λx hx h1 h2=>?_
  exact hx0 x (by rw[hdl];exact List.mem_filter.mpr ⟨hx,Qo (by rw[h2,hN];exact z)⟩) h1.symm)
 induction ds with
 |nil=>exact .inl ⟨(QV hdk).symm,λe he=>no e he nofun⟩
 |cons d0 t=>induction t with
  |cons _ _=>exact Xx hdk
  |nil=>
   refine Wg (show bc (NW F r d0.2.1) (some [d0.1]) none=some dk from hdk) λhs0 hdk=>?_
   have hd0:d0∈es.filter λx=>decide (x.2.1.val C.ρ<=N.val C.ρ):=by rw[←hdl];exact Ql
   obtain ⟨hd1,hd2⟩:=List.mem_filter.mp hd0
   refine x14 (rel.right d0 hd1) λd hd f1 f2 f3=>?_
   refine .inr ⟨d,hd,by rw[f1];exact (QV hdk).symm,?_,by rw[←f2,←hN];exact Qt hd2,λe he hne=>no e he λx hx=>?_⟩
   ·rcases Option.eq_none_or_eq_some r with h |⟨z,h⟩
    ·exact .inl h
    ·rw[h] at hs0
     exact .inr ⟨z,h,by rw[←f2];exact (NX HF hs0).1⟩
   ·rw[List.mem_singleton.mp hx]
    exact λq=>hne (D6 hkn he hd (by rw[←q,f1]))
theorem Xk7{z:Int}{x y D:Nat}(hD:¬16<=(D:Int))(h1:1<=x)(h2:x < y)(h3:y < 1 + D)(h:((z + (x:Int)) % 16).toNat=((z + (y:Int)) % 16).toNat):False:=by
 have h':(z + (y:Int)) % 16=(z + (x:Int)) % 16:=by
  rw[←Int.toNat_of_nonneg (Int.emod_nonneg (z + (x:Int)) (by decide)),h,Int.toNat_of_nonneg (Int.emod_nonneg _ (by decide))]
 have h4:=Int.emod_eq_emod_iff_emod_sub_eq_zero.mp h'
 rw[Int.add_sub_add_left] at h4
 have h5:=Int.le_of_dvd (Int.sub_pos_of_lt (Int.ofNat_lt.mpr h2)) (Int.dvd_of_emod_eq_zero h4)
 lia
theorem Xwb{z T N:Int}{g:Prop}(h1:z < T)(h2:T<=N)(f:∀a:Nat,1<=a->a < 1 + (N - z).toNat->(a:Int)=T - z->g):g:=
 f (T - z).toNat (by lia) (by lia) (Int.toNat_of_nonneg (Int.sub_nonneg_of_le (Int.le_of_lt h1)))
set_option tactic.hygienic true in
theorem Xc5(O:C.Ok)(Rx:C.cells=[])(Ry:C.cellv=[])(hK:C.K=KF P)(HF:Xm C.ρ F)(gd:X5 A 2){Ro Rq σ}(R:Rp C Ro Rq σ s.heap){a:Nat}(ha:Ro[i]?=some a){N:LI}(hN:N.val C.ρ=Nv)(e:XnJ F σ i N (σ.h.get i)=some (.ok v σ'))
  {Q:Result->Rk->Prop}(hq:N0 C Ro Rq s σ' v Q):
  codeAny (model C.prog C.w) A (.call (.ref 832) ⟨[.ref a,.int Nv t],[]⟩) Q s:=by
 induction q:σ.h.get i with
 |none=>rw[q] at e;exact Xx e
 |some o=>
  rw[q] at e
  refine Zx λ_ kk=>?_
  induction o<;>first |exact Xx e |(refine kk ?_;clear kk)
  rename_i es r g
  refine Wg (show bc (okW es) (bc (NW F r N) (oc (Xgj F N es) none λds=>oc (Xle F r ds) none λdk=>some (XnK σ i es N g dk)) none) none=_ from e) λhok e=>?_
  refine Wg e λhsin e=>?_
  refine Z8 e λds hds e=>?_
  refine Z8 e λdk hdk e=>?_
  replace hq:=hq.eqo e
  have hnd:=(WB hok).2
  have hl:=(WB hok).1
  have lk:(e3 C.ρ es).map (·.1)=es.map (·.1):=by unfold e3;rw[List.map_map];rfl
  have hdl:=Xgk HF hds
  refine BK (f:=832) (argsW:=[.int (Xn Nv)]) (args:=[.int Nv t]) (dk:=dk) (r':=some N) (esG:=es.filter λx=> !(dk.contains x.1)) O Rx Ry hK gd R q ha (by lia) (λadw=> .cons (.int _ _ _ (Xs _ _)) .nil) (λrs hrs=>?_) hq
  refine YF (J1 (r:=r) (g:=g) hok hrs) λW0 hn _=>?_
  have rel:=Y0.wes (j:=0) hrs
  have hkn:((Iu 0 (e3 C.ρ es) rs).map (·.key)).Nodup:=by rw[U7 hrs.1,lk];exact hnd
  have hwl:(Iu 0 (e3 C.ρ es) rs).length=es.length:=rel.idx.1
  have tm:∀e∈Iu 0 (e3 C.ρ es) rs,∀b,(decide (e.t.val C.ρ<=Nv))=b->JP [] e.t (Xn Nv)=some b:=λe he b hb=>by
   rw[XhN he,NN,hb]
  have hdue:=Xc7 HF hN hdk hdl rel hkn tm
  have hrd:UZ C.ρ r= .none∨∃z,UZ C.ρ r= .int z/\Ow [] z (Xn Nv)=some true:=by
   induction r with
   |none=>exact .inl rfl
   |some z=>
    refine .inr ⟨_,rfl,?_⟩
    rw[Xd7,Qo (by rw[←hN];exact (NX HF hsin).1)]
  have main:∀kl:List Int,DC [] [] 0 (Iu 0 (e3 C.ρ es) rs) (UZ C.ρ r) (Xn g) (Xn Nv) kl->kl.Nodup->kl.length<=60->(∀κ∈kl,∃e∈Iu 0 (e3 C.ρ es) rs,e.key=κ)->(∀d∈Iu 0 (e3 C.ρ es) rs,(r=none∨∃z,r=some z/\z.val C.ρ < d.t.val C.ρ)->d.t.val C.ρ<=Nv->d.key∈kl)->
    ∃q σw' es' rd' gv',run (XW [] []) 2 (.fn 832) (.ref 1::[.int (Xn Nv)]) (Oj (e3 C.ρ es) rs (UZ C.ρ r) g)= .ok (.ref q) σw'/\RW σw' es' rd' gv'/\Xj9 C.ρ es' rd' gv' (es.filter λx=> !(dk.contains x.1)) (some N) g/\σw'.h.get q=some (.list (XF dk))/\21 + es.length<=q/\∀e∈es',e.id≠q:=λkl HK k1 k2 k3 k4=>by
   have hd:=Xc6 (F:=[]) (G:=[]) (N:=Xn Nv) hkn k1 k3 (dk:=dk) (by
    rcases hdue with h |⟨d,hd,h1,h2,h3,h4⟩
    ·exact .inl h
    ·exact .inr ⟨d,hd,h1,k4 d hd h2 h3,tm d hd true (Qo h3),Gv hrs hd,h4⟩)
   refine x28 (Xgm (F:=[]) (G:=[]) (j:=0) W0 (by lia) HK k2 hrd hd) λσw' q e1 e2 e3' e4 e5 e6 e7 e8=>?_
   have rel':=rel.filter λκ=> !(dk.contains κ)
   refine ⟨q,σw',_,_,_,e1,e2,⟨.inr ⟨_,N,rfl,rfl,by rw[Xs,hN]⟩,Xs _ _,rel'.idx.1,?_,rel'.idx.2⟩,e3',by lia,λe he=>?_⟩
   ·have:=QT (λx:WE=> !(dk.contains x.key)) (Iu 0 (e3 C.ρ es) rs)
    lia
   ·exact e8 e (List.mem_filter.mp he).1
  have allKeys:∀d∈Iu 0 (e3 C.ρ es) rs,d.key∈(Iu 0 (e3 C.ρ es) rs).map (·.key):=λd hd=>Qc ⟨d,hd,rfl⟩
  have far:(r=none∨∃z,r=some z/\16<=Nv - z.val C.ρ)->_:=λhf=>main _ (XdY hf) hkn (by rw[Qs];lia) (λκ hκ=>by refine YB (Qb hκ) λe he q=>?_;exact ⟨e,he,q⟩) (λd hd _ _=>allKeys d hd)
  rcases Option.eq_none_or_eq_some r with hr |⟨z,hr⟩
  ·exact far (.inl hr)
  ·rw[hr] at hsin
   obtain ⟨s1,s2⟩:=NX HF hsin
   obtain ⟨s3,s4⟩:=NY HF s2
   rw[ZS] at s3 s4
   have hone:LI.val C.ρ ⟨1,[]⟩=1:=Xs _ _
   rw[hone] at s3 s4
   rw[hN] at s1
   by_cases hfar:16<=Nv - z.val C.ρ
   ·exact far (.inr ⟨z,hr,hfar⟩)
   ·have hnn:((Nv - z.val C.ρ).toNat:Int)=Nv - z.val C.ρ:=Int.toNat_of_nonneg (Int.sub_nonneg_of_le (Int.le_of_lt s1))
    refine main _ (by rw[hr];exact Xbu s1 (Int.not_le.mp hfar) s3 s4) (BL hkn λx y h1 h2 h3 hxy=>?_) ?_ (λκ hκ=>?_) (λd hd h1 h2=>?_)
    ·have hxy':((z.val C.ρ + (x:Int)) % 16).toNat=((z.val C.ρ + (y:Int)) % 16).toNat:=hxy
     exact Xk7 (by rw[hnn];exact hfar) h1 h2 h3 hxy'
    ·refine QH Xfr ?_
     rw[hwl]
     have:(Nv - z.val C.ρ).toNat<=15:=Nat.le_of_lt_succ (Int.ofNat_lt.mp (by rw[hnn];exact Int.not_le.mp hfar))
     exact QH (Nat.mul_le_mul this hl) (by decide)
    ·refine YO (I8.mp hκ) λ_ _ _ zz1=>?_;refine YO zz1 λe he _ hk=>?_
     exact ⟨e,he,hk⟩
    ·rcases h1 with h1 |⟨z',hz',h1⟩
     ·exact snn (hr.symm.trans h1)
     ·replace hz':=hr.symm.trans hz'
      rw[←QV hz'] at h1
      obtain ⟨dd,hdd⟩:=List.mem_iff_getElem?.mp hd
      refine Gw (Us hdd) λtt oo w1 w2 w3 w4 w5=>?_
      have hmod:=hrs.2.2 dd _ _ _ _ w4 w5
      have htv:d.t.val C.ρ=tt:=by rw[w2,Xs]
      rw[htv] at h1 h2
      refine Xwb h1 h2 λa a1 a2 a3=>I8.mpr ⟨a,a1,a2,d,hd,?_,rfl⟩
      show d.r=((z.val C.ρ + (a:Int)) % 16).toNat
      rw[a3,Int.add_comm (z.val C.ρ),Int.sub_add_cancel,hmod];rfl
def Xek:Nat->List O
 | 0=>[]
 |n + 1=> .list []::Xek n
noncomputable def Wb:List O:= .flds 842 [(27,.int (Xn 16)),(107,.ref 18),(106,.ref 19),(105,.ref 20),(104,.none),(103,.int (Xn 0))]:: .inst 842 0::(Xek 16++[.list (J2 2 16),.list [],.idict []])
theorem Xg2:run (XW [] []) 2 (.cls 842) [] ⟨.nil,0⟩= .ok (.ref 1) ⟨JF .nil 0 Wb,21⟩:=by kernel_rfl
def N7(n:Nat):Nat:=if n=0 then 0 else if n=1 then 1 else if n < 5 then n + 16 else n - 3
theorem Gm{a:Nat}(h1:a < 21):N7 a < 21:=by unfold N7;split<;>(try split)<;>(try split)<;>lia
theorem UV:Wb.length=21:=by decide +kernel
theorem Kz:∀{n p:Nat},p < n->(Xek n)[p]?=some (.list [])
 |n + 1,0,_=>rfl
 |n + 1,p + 1,h=>Kz (n:=n) (by lia)
theorem Xei(OK:C.Ok)(Rx:C.cells=[])(Ry:C.cellv=[])(hK:C.K=KF P)(gd:X5 A 2){Ro Rq σ}(R:Rp C Ro Rq σ s.heap)
  {Q:Result->Rk->Prop}(hq:N0 C Ro Rq s ⟨σ.h.set (.wheel [] none 0) σ.n,σ.n + 1⟩ (.ref σ.n) Q):
  codeAny (model C.prog C.w) A (.call (.ref 842) ⟨[],[]⟩) Q s:=by
 have cal:XB C (2 + 0) (run (XW [] []) 2):=Um Rx OK rfl rfl UK WC (Nu OK Ry hK) Ww 2
 refine cal A gd (.cls 842) [] _ _ _ [] (λ_=>none) s (.ref 842) [] Xg2 ⟨rfl,λ_ _ _=>rfl,R.keep,R.big,λj o e=>by exact Xx e⟩ (.cls 842) .nil Q λh' k Rr Rt val G' R' V'=>?_
 have raw:∀n,n < 21->∀o,Wb[n]?=some o->∃b,Rr[n]?=some b/\Rt b=some n/\OR C.ρ Rr Rt h' n b o:=λn hn o e=>by
  refine R'.obj n o ?_
  have:=U0 (l:=Wb) (t:= .nil) (i:=0) (d:=n) (by rw[UV];exact hn) (by rw[UV];decide)
  rw[QM] at this
  exact this.trans e
 have some21:∀n,n < 21->∃o,Wb[n]?=some o:=λn hn=>⟨_,Qq (by rw[UV];exact hn)⟩
 let ad:Nat->Rn:=λn=>(Rr[n]?).getD 0
 have had:∀n,n < 21->Rr[n]?=some (ad n)/\Rt (ad n)=some n:=λn hn=>by
  obtain ⟨o,ho⟩:=some21 n hn
  refine YO (raw n hn o ho) λb f1 f2 _=>?_
  have:ad n=b:=by show (Rr[n]?).getD 0=b;rw[f1];rfl
  rw[this];exact ⟨f1,f2⟩
 let adc:List Rn:=(List.range 21).map λn=>ad (N7 n)
 have adc_get:∀n,n < 21->adc[n]?=some (ad (N7 n)):=λn hn=>by
  show ((List.range 21).map λn=>ad (N7 n))[n]?=_
  rw[QE,List.getElem?_range hn];rfl
 have adc_nd:adc.Nodup:=by
  refine YN Rt ?_
  have:adc.map Rt=(List.range 21).map λn=>some (N7 n):=by
   show ((List.range 21).map λn=>ad (N7 n)).map Rt=_
   rw[List.map_map]
   exact List.map_congr_left λn hn=>(had (N7 n) (Gm (List.mem_range.mp hn))).2
  rw[this]
  have h2:((List.range 21).map N7).Nodup:=by decide +kernel
  have h3:((List.range 21).map λn=>some (N7 n))=((List.range 21).map N7).map some:=by rw[List.map_map];rfl
  rw[h3]
  exact List.Pairwise.map some (λ(x y:Nat) (hxy:x≠y) e=>hxy (QV e)) h2
 have to:∀n m,m < 21->N7 m=n->∀b,Rr[n]?=some b->adc[m]?=some b:=λn m hm hp b hb=>by
  rw[adc_get m hm,hp]
  show some ((Rr[n]?).getD 0)=_
  rw[hb];rfl
 have Rc:Rp C adc (Z3 adc 0) (Oj (e3 C.ρ []) [] (UZ C.ρ none) 0) h':=by
  refine ⟨by show ((List.range 21).map λn=>ad (N7 n)).length=21;rw[Qs,List.length_range],λb o e=>?_,R'.keep,R'.big,λj o e=>?_⟩
  ·induction z:Z3 adc 0 b with
   |none=>rfl
   |some y=>
    have hm:=ZX (l:=adc) (j:=0) (b:=b) (by rw[z];nofun)
    refine YB (Qb hm) λn hn zz1=>?_;subst zz1
    have:=(had (N7 n) (Gm (List.mem_range.mp hn))).2
    rw[R'.old _ o e] at this
    exact Xx this
  ·replace e:=Dl (es:=e3 C.ρ []) (show (e3 C.ρ []).length<=100 from Rg _) e
   have hj:j < 21:=by
    have:=(Qa e).1
    rw[Zt] at this;exact this
   have key:∀o0,Wb[N7 j]?=some o0->OT C.ρ Rr C.ρ adc o0 o->OR C.ρ Rr Rt h' (N7 j) (ad (N7 j)) o0=JR C.ρ Rr h' (ad (N7 j)) o0->∃b,adc[j]?=some b/\Z3 adc 0 b=some j/\OR C.ρ adc (Z3 adc 0) h' j b o:=λo0 e0 t e2=>by
    refine YO (raw (N7 j) (Gm hj) o0 e0) λb f1 f2 f3=>?_
    have hb:ad (N7 j)=b:=by show (Rr[N7 j]?).getD 0=b;rw[f1];rfl
    refine ⟨ad (N7 j),adc_get j hj,by rw[Ni adc_nd (adc_get j hj),QM],JR.or (t.go ?_)⟩
    rw[←e2,hb];exact f3
   by_cases c5:j < 5
   ·have:j=0∨j=1∨j=2∨j=3∨j=4:=lt5 (by assumption)
    rcases this with rfl |rfl |rfl |rfl |rfl
    ·obtain rfl:=QV e
     exact key _ rfl (.flds (.cons (.int rfl) (.cons (.ref (to 18 2 (by decide) rfl)) (.cons (.ref (to 19 3 (by decide) rfl)) (.cons (.ref (to 20 4 (by decide) rfl)) (.cons .none (.cons (.int rfl) .nil))))))) rfl
    ·obtain rfl:=QV e
     exact key _ rfl (.inst (to 0 0 (by decide) rfl)) rfl
    ·obtain rfl:=QV e
     have rf:∀n j,j + n<=21->5<=j->DE C.ρ Rr C.ρ adc (J2 (j - 3) n) (J2 j n):=by
      intro n
      induction n with
      |zero=>intro j _ _;exact .nil
      |succ n ih=>
       intro j hj h5
       refine .cons (.ref (to (j - 3) j (by lia) (by unfold N7;rw[if_neg (by lia),if_neg (by lia),if_neg (by lia)]))) ?_
       have:=ih (j + 1) (by lia) (by lia)
       rw[show j + 1 - 3=j - 3 + 1 by lia] at this
       exact this
     exact key _ rfl (.list (rf 16 5 (by decide) (by decide))) rfl
    ·obtain rfl:=QV e
     exact key _ rfl (.list .nil) rfl
    ·obtain rfl:=QV e
     exact key _ rfl (.idict .nil) rfl
   ·obtain ⟨p,rfl⟩:∃p,j=5 + p:=Rh (Nat.le_of_not_lt (by assumption))
    rw[NS (by lia)] at e
    obtain rfl:=QV e
    have hp:N7 (5 + p)=2 + p:=by unfold N7;rw[if_neg (by lia),if_neg (by lia),if_neg (by lia)];lia
    refine key (.list []) ?_ (.list .nil) rfl
    rw[hp,Nat.add_comm 2 p]
    show (Xek 16++[O.list (J2 2 16),.list [],.idict []])[p]?=_
    rw[List.getElem?_append_left (by have:(Xek 16).length=16:=(by decide +kernel);rw[this];lia),Kz (by lia)]
 have dead:∀b n,Rt b=some n->s.heap.get? b=none:=λb n hb=>by
  induction z:s.heap.get? b with
  |none=>rfl
  |some o=>rw[G'.same b o z] at hb;exact Xx hb
 have W':WR C.ρ (Im s.heap Rq λx=>if Rt x=none then Rq x else some σ.n) h' σ.n (ad 1) [] none 0:=by
  refine NA Rc (XaB (es:=e3 C.ρ []) (show (e3 C.ρ []).length<=100 from Rg _) rfl QP nofun) (adc_get 1 (by decide)) (λb n hb hn=>?_) (show 0<=40 from Rg _) (.inl ⟨rfl,rfl⟩) (Xs _ _) ⟨rfl,λd e he=>by exact Xx he⟩
  have hm:=ZX (l:=adc) (j:=0) (b:=b) (by rw[hb];nofun)
  refine YB (Qb hm) λm hm' zz2=>?_;subst zz2
  have ho:=(had (N7 m) (Gm (List.mem_range.mp hm'))).2
  rw[Jo (dead _ _ ho),if_neg (by rw[ho];nofun)]
 have hval:val= .ref (ad 1):=by
  refine V'.refE λy hy=>?_
  rw[(had 1 (by decide)).1] at hy;obtain rfl:=QV hy;rfl
 subst hval
 have ho1:=(had 1 (by decide)).2
 have hlast:(Ro++[ad 1])[σ.n]?=some (ad 1):=by rw[←R.len];exact QU
 refine hq h' k (Ro++[ad 1]) (Im s.heap Rq λx=>if Rt x=none then Rq x else some σ.n) (.ref (ad 1)) ⟨Qr _ _,λb o e=>XZ e,λb o e _ _=>G'.keep b o e rfl id,G'.live⟩
  ⟨by rw[Qw,R.len];rfl,λb o e=>by rw[XZ (R.keep b o e)];exact R.old b o e,R'.keep,R'.big,λj o e=>?_⟩ (.ref _ _ hlast)
 rcases Tr.set_get e with ⟨rfl,rfl⟩ |⟨hj,e⟩
 ·exact ⟨ad 1,hlast,by rw[Jo (dead _ _ ho1),if_neg (by rw[ho1];nofun)],W'⟩
 ·refine YO (R.obj j o e) λb f1 f2 f3=>?_
  obtain ⟨y,hy⟩:=f3.live
  refine ⟨b,Yb (Qr _ _) f1,(XZ hy).trans f2,f3.mono f2 (Qr _ _) (λb' o' hb' ho'=>G'.keep b' o' ho' rfl id) λb' hb'=>?_⟩
  induction z:s.heap.get? b' with
  |none=>rw[z] at hb';exact ff hb'
  |some o'=>exact XZ z
theorem Xgz:Mg.get 1280=some Wr:=rfl
theorem Nq{a b:M}(h1:a k l σ= .ok (.ref i) σ1)(h2:b k l σ1= .ok (.int (Xn n)) σ2)(hi:σ2.h.get i=some (.list its))(hn:n<=60000)(hv:its[n]?=some v):Yv a b k l σ= .ok v σ2:=by
 show Xu.to (a k l σ) _ _=_
 rw[h1]
 show Xu.to (b k l σ1) _ _=_
 rw[h2]
 show YS (Gs (Xn n) (σ2.h.get i)) σ2=_
 rw[hi]
 show YS (bc (Nat.ble n 60000) (Zn its n) none) σ2=_
 rw[QD hn,Zo,hv]
theorem D4{e:M}{x:LI}(h:e k l σ= .ok (.int x) σ1):YI 3 (Xa e Xe) k l σ= .ok (.int x) σ1:=by
 show Yj.to (Xa e Xe k l σ) _ _=_
 rw[XK h rfl];rfl
theorem Gb{a b:Int}(hb:0 < b):ZD G 4 (Xn a) (Xn b)=some (Xn (a % b)):=by
 show @Option.rec LI (λ_=>Option LI) (WQ G 4 (Xn a) (Xn b)) (λr=>some r) (bc (nn (b - 1)) (some (Xn (Int.fmod a b))) none)=_
 rw[Wj,Qo (by lia)]
 show some (Xn (Int.fmod a b))=_
 rw[Int.fmod_eq_emod_of_nonneg _ (by lia)]
theorem Xb0{b:Int}(h0:0<=b)(h1:b<=1073741823):U2 b=true:=by
 obtain ⟨n,rfl⟩:=Int.eq_ofNat_of_zero_le h0
 show Nat.ble n 1073741823=true
 exact QD (by lia)
theorem Do{b:Int}(h0:0<=b)(h1:b<=4611686018427387903):Up b=true:=by
 obtain ⟨n,rfl⟩:=Int.eq_ofNat_of_zero_le h0
 show Nat.ble n 4611686018427387903=true
 exact QD (by lia)
theorem Xc4{a b:Int}(hb:0 < b)(h1:b<=1073741823):ZD G 3 (Xn a) (Xn b)=some (Xn (a / b)):=by
 show @Option.rec LI (λ_=>Option LI) (WQ G 3 (Xn a) (Xn b)) (λr=>some r) (bc (nn (b - 1)) (bc (U2 b) (some (Xn (Int.fdiv a b))) none) none)=_
 rw[Wj,Qo (by lia),Xb0 (by lia) h1]
 show some (Xn (Int.fdiv a b))=_
 rw[Int.fdiv_eq_ediv_of_nonneg _ (by lia)]
theorem Xef{a b:Int}(h0:0<=a)(h1:a<=4611686018427387903):ZD G 2 (Xn a) (Xn b)=some (Xn (a * b)):=by
 show @Option.rec LI (λ_=>Option LI) (WQ G 2 (Xn a) (Xn b)) (λr=>some r) (bc (Up a) (some ⟨Int.mul a b,[]⟩) none)=_
 rw[Do h0 h1]
 rfl
theorem WD{e:M}(h:e k l σ= .ok v σ1):Xq e k l σ= .ret v σ1:=by
 show Xu.to (e k l σ) _ _=_
 rw[h]
theorem Xcp{e:M}(h:e k l σ= .ok v σ1):Xz n e k l σ= .next (XM l n v) σ1:=by
 show Xu.to (e k l σ) _ _=_
 rw[h]
theorem OX{o ie e:M}{σ3:St}{w:V}(h1:e k l σ= .ok w σ1)(h2:o k l σ1= .ok (.ref i) σ2)(h3:ie k l σ2= .ok (.int (Xn n)) σ3)(hi:σ3.h.get i=some (.list its))(hl:its.length<=60000)(hn:n < its.length):
  N8 o ie e k l σ= .next l (σ3.put i (.list (its.set n w))):=by
 show Xu.to (e k l σ) _ _=_
 rw[h1]
 show Xu.to (o k l σ1) _ _=_
 rw[h2]
 show Xu.to (ie k l σ2) _ _=_
 rw[h3]
 show Xls l i (n:Int) w σ3 (σ3.h.get i)=_
 rw[hi]
 show bc (XU its) (bc (Nat.blt n (Uy its)) (Zk.next l (σ3.put i (.list (its.set n w)))) .no) .no=_
 rw[JZ hl,Y6,Nat.blt_eq.mpr hn]
theorem Mb{p q:Int}(hi:σ.h.get i=some (.list [.int (Xn p),.int (Xn q)]))(hi2:i < 65535)(h1:0 < top)(h2:top<=1000)(hq0:0<=q)(hq:q < 2147483647):
  run (XW F G) (j + 1) (.fn 1280) [.ref i,.int (Xn top)] σ= .ok (.int (Xn (YA p q top).1)) (σ.put i (.list [.int (Xn (YA p q top).2.1),.int (Xn (YA p q top).2.2)])):=by
 rw[ZN rfl Xgz rfl]
 generalize Ik (XW F G) (run (XW F G) j)=k
 let l:YG:=[(171,.ref i),(172,.int (Xn top))]
 have s0:∀{l:YG},Xh l 171=some (.ref i)->Yv (Xb 171) (Xf 0) k l σ= .ok (.int (Xn p)) σ:=λhl=>Nq (n:=0) (Xy hl) rfl hi (by decide) rfl
 have t1:Xp 4 (Yv (Xb 171) (Xf 0)) (Xf 0) k l σ= .ok (decide (0 < p)) σ:=by
  refine YE (s0 rfl) (show Xf 0 k l σ= .ok (.int (Xn 0)) σ from rfl) ?_
  show Ow k.F (Xn 0) (Xn p)=_
  exact Xd7
 by_cases hp:0 < p
 ·have ht:YA p q top=(p % top,p / top,q):=by unfold YA;rw[if_pos hp]
  rw[ht]
  let l1:YG:=XM l 173 (.int (Xn (p % top)))
  have b:Wr.body k l σ= .ret (.int (Xn (p % top))) (σ.put i (.list [.int (Xn (p / top)),.int (Xn q)])):=by
   refine YV ?_
   rw[JX t1,Qo hp]
   refine (Xw (Xcp (YZ (D4 (s0 rfl)) (Xy (show Xh l 172=some (.int (Xn top)) from rfl)) (Gb h1)))).trans ?_
   refine (Xw (OX (n:=0) (YZ (s0 (l:=l1) rfl) (Xy (show Xh l1 172=some (.int (Xn top)) from rfl)) (Xc4 h1 (by lia))) (Xy (show Xh l1 171=some (.ref i) from rfl)) rfl hi (by show 2<=60000;lia) (by show 0 < 2;lia))).trans ?_
   exact YV (WD (Xy (show Xh l1 173=some (.int (Xn (p % top))) from rfl)))
  show Ze (Wr.body k l σ)=_
  rw[b];rfl
 ·let q':=(q * 39373 + 7) % 2147483647
  have ht:YA p q top=((q' * q') % 2147483629 / 32 % top,p,q'):=by unfold YA;rw[if_neg hp]
  rw[ht]
  have hq'0:0<=q':=Int.emod_nonneg _ (by decide)
  have hq'1:q' < 2147483647:=Int.emod_lt_of_pos _ (by decide)
  let σ1:=σ.put i (.list [.int (Xn p),.int (Xn q')])
  have hi1:σ1.h.get i=some (.list [.int (Xn p),.int (Xn q')]):=Yd hi2
  have s1:Yv (Xb 171) (Xf 1) k l σ= .ok (.int (Xn q)) σ:=Nq (n:=1) (Xy rfl) rfl hi (by decide) rfl
  have s2:Yv (Xb 171) (Xf 1) k l σ1= .ok (.int (Xn q')) σ1:=Nq (n:=1) (Xy rfl) rfl hi1 (by decide) rfl
  have b:Wr.body k l σ= .ret (.int (Xn ((q' * q') % 2147483629 / 32 % top))) σ1:=by
   refine (Xw (l':=l) (σ':=σ) (by rw[JX t1,Qn hp];rfl)).trans ?_
   refine (Xw (OX (n:=1) (its:=[.int (Xn p),.int (Xn q)]) (w:= .int (Xn q')) (YZ (D4 (YZ (YZ s1 (show Xf 39373 k l σ= .ok (.int (Xn 39373)) σ from rfl) (Xef hq0 (by lia))) (show Xf 7 k l σ= .ok (.int (Xn 7)) σ from rfl) rfl)) (show Xf 2147483647 k l σ= .ok (.int (Xn 2147483647)) σ from rfl) (Gb (by decide))) (Xy rfl) rfl hi (by show 2<=60000;lia) (by show 1 < 2;lia))).trans ?_
   refine YV (WD ?_)
   refine YZ (D4 (YZ (YZ (D4 (YZ s2 s2 (Xef hq'0 (by lia)))) (show Xf 2147483629 k l σ1= .ok (.int (Xn 2147483629)) σ1 from rfl) (Gb (by decide))) (show Xf 32 k l σ1= .ok (.int (Xn 32)) σ1 from rfl) (Xc4 (by decide) (by decide)))) (Xy (show Xh l 172=some (.int (Xn top)) from rfl)) (Gb h1)
  show Ze (Wr.body k l σ)=_
  rw[b]
  rfl
def XjZ(σ:St)(i:Nat)(top:Int):Option O->Option Xu
 |some (.src ((t,d)::r))=>bc (decide (t=top)) (bc (Nat.blt i 65535) (some (.ok (.int d) (σ.put i (.src r)))) none) none
 |_=>none
theorem Dt{p q:Int}(h0:0<=p)(hq0:0<=q)(hq:q < 2147483647)(h1:0 < top):0<=(YA p q top).2.1/\0<=(YA p q top).2.2/\(YA p q top).2.2 < 2147483647:=by
 unfold YA
 split
 ·exact ⟨Int.ediv_nonneg h0 (by lia),hq0,hq⟩
 ·exact ⟨h0,Int.emod_nonneg _ (by decide),Int.emod_lt_of_pos _ (by decide)⟩
set_option tactic.hygienic true in
theorem Xb2(OK:C.Ok)(Rx:C.cells=[])(Ry:C.cellv=[])(hK:C.K=KF P)(gd:X5 A 2){Ro Rq σ}(R:Rp C Ro Rq σ s.heap){a:Nat}(ha:Ro[i]?=some a)(e:XjZ σ i top (σ.h.get i)=some (.ok v σ'))
  {Q:Result->Rk->Prop}(hq:N0 C Ro Rq s σ' v Q):
  codeAny (model C.prog C.w) A (.call (.ref 1280) ⟨[.ref a,.int top t],[]⟩) Q s:=by
 cases z:σ.h.get i with
 |none=>rw[z] at e;cases e
 |some o=>
  rw[z] at e
  induction o<;>try (cases e;done)
  rename_i l
  cases l with
  |nil=>cases e
  |cons x r=>
   obtain ⟨tp,d⟩:=x
   refine Wg (show bc (decide (tp=top)) (bc (Nat.blt i 65535) (some (Xu.ok (.int d) (σ.put i (.src r)))) none) none=_ from e) λh1 e=>?_
   refine Wg e λh2 e=>?_
   replace hq:=hq.eqo e
   have htp:=Qt h1
   subst htp
   refine YO (R.obj i _ z) λb f1 f2 zz1=>?_;refine x55 zz1 λp q t1 u1 n1 g1 g2 g3 g4 g5=>?_
   rw[ha] at f1
   obtain rfl:=QV f1
   refine Mf g5 λd1 d2 d3 d4=>?_
   have hi2:i < 65535:=Nat.blt_eq.mp h2
   have R1:Rp C Ro Rq (σ.put i (.list [.int (Xn p),.int (Xn q)])) s.heap:=by
    refine ⟨R.len,R.old,R.keep,R.big,λn o e=>?_⟩
    rcases Tr.set_get e with ⟨rfl,rfl⟩ |⟨hn,e⟩
    ·exact ⟨a,ha,f2,_,n1,g1,.cons (.int _ _ _ (Xs _ _)) (.cons (.int _ _ _ (Xs _ _)) .nil)⟩
    ·exact R.obj n o e
   have cal:XB C (2 + 0) (run (XW [] []) 2):=Um Rx OK rfl rfl UK WC (Nu OK Ry hK) Ww 2
   have er:=Mb (F:=[]) (G:=[]) (j:=1) (σ:=σ.put i (.list [.int (Xn p),.int (Xn q)])) (top:=tp) (Yd hi2) hi2 d1 d2 g3 g4
   refine YF (Dt (top:=tp) g2 g3 g4 d1) λs1 s2 s3=>?_
   refine cal A gd (.fn 1280) _ _ _ _ Ro Rq s (.ref 1280) _ er R1 (.fn 1280) (.cons (.ref i a ha) (.cons (.int _ _ _ (Xs _ _)) .nil)) Q λh' k Rr Rt val G' R' V'=>?_
   refine hq h' k Rr Rt val G' ⟨R'.len,R'.old,R'.keep,R'.big,λn o e=>?_⟩ ?_
   ·by_cases hn:n=i
    ·rw[hn,Yd hi2] at e
     rw[hn]
     obtain rfl:=QV e
     refine YO (R'.obj i (.list [.int (Xn (YA p q tp).2.1),.int (Xn (YA p q tp).2.2)]) (Yd hi2)) λb k1 k2 zz2=>?_;refine Y5 zz2 λvs n2 k3 k4=>?_
     refine ⟨b,k1,k2,?_⟩
     obtain ⟨tt1,tt2,ev⟩:=k4.ints2
     rw[ev,Xs,Xs] at k3
     exact ⟨_,_,_,_,_,k3,s1,s2,s3,d4⟩
    ·have e1:(σ.put i (.src r)).h.get n=σ.h.get n:=XV hn
     rw[e1] at e
     refine R'.obj n o ?_
     rw[XV hn,XV hn];exact e
   ·cases V' with
    |int _ z1 tt e1=>
     rw[Xs] at e1
     exact .int _ _ _ (d3.trans e1)
theorem XkJ:Mg.get 391=some W4:=rfl
theorem XgB:Mg.get 1301=some IZ:=rfl
theorem Z7{n0 c d:Nat}(hl:Xh l n0=some (.ref i))(hi:σ.h.get i=some (.inst c d))(hd:σ.h.get d=some (.flds c fs))(hv:Xh fs n=some v):Xj (Xb n0) n k l σ= .ok v σ:=by
 show (YS (Xh l n0) σ).to .no (Kk k n)=_
 rw[hl]
 show MW k i n σ (σ.h.get i)=_
 rw[hi]
 show MN k i n c σ (σ.h.get d)=_
 rw[hd]
 show bc (Nat.beq c c) (@Option.rec V (λ_=>Xu) (Oh k i n σ (k.cls c)) (λv=> .ok v σ) (Xh fs n)) .no=_
 rw[QI,hv]
def UA(ρ:Nat->Int)(a:LI):List (Nat×Int)×Int×Bool:=(a.t,a.c,decide (0<=a.val ρ))
theorem IM{l:List LI}:Xm ρ (l.map (UA ρ)):=λt c b h=>by
 refine YB (Qb h) λa _ e=>?_
 cases e
 rfl
theorem KC{l:List LI}{a:LI}(h:a∈l):Wx (l.map (UA ρ)) a=some (decide (0<=a.val ρ)):=by
 obtain ⟨c,t⟩:=a
 induction t with
 |nil=>
  show some (nn c)=_
  rw[Wj]
  congr 2
  show (0<=c)=(0<=c + 0)
  rw[Rb]
 |cons x r=>exact XfI IM (Qc ⟨_,h,rfl⟩)
abbrev GC(a b:LI):LI:=(b.sub a).add ⟨-1,[]⟩
theorem IC{l:List LI}{a b:LI}(h:GC a b∈l):Ow (l.map (UA ρ)) a b=some (decide (a.val ρ < b.val ρ)):=by
 have e:Ow (l.map (UA ρ)) a b=some (decide (0<=(GC a b).val ρ)):=KC h
 have:=N5 IM e
 rw[e,this]
def Yq(x le mo:Int):Int:=if x < le then le else if mo < x then mo else x
theorem GO{d:Nat}{x le mo:LI}(hi:σ.h.get i=some (.inst 394 d))(hd:σ.h.get d=some (.flds 394 fs))(h1:Xh fs 42=some (.int le))(h2:Xh fs 21=some (.int mo)):
  ∃r:LI,run (XW ([GC x le,GC mo x].map (UA ρ)) G) (j + 1) (.fn 391) [.ref i,.int x] σ= .ok (.int r) σ/\r.val ρ=Yq (x.val ρ) (le.val ρ) (mo.val ρ):=by
 rw[ZN rfl XkJ rfl]
 generalize hk:Ik (XW ([GC x le,GC mo x].map (UA ρ)) G) (run (XW ([GC x le,GC mo x].map (UA ρ)) G) j)=k
 have hF:k.F=[GC x le,GC mo x].map (UA ρ):=by rw[←hk];rfl
 let l:YG:=[(9,.ref i),(38,.int x)]
 have t1:Xp 2 (Xb 38) (sA 42) k l σ= .ok (decide (x.val ρ < le.val ρ)) σ:=by
  refine YE (Xy (show Xh l 38=some (.int x) from rfl)) (Z7 rfl hi hd h1) ?_
  show Ow k.F x le=_
  rw[hF];exact IC (Ql)
 have t2:Xp 4 (Xb 38) (sA 21) k l σ= .ok (decide (mo.val ρ < x.val ρ)) σ:=by
  refine YE (Xy (show Xh l 38=some (.int x) from rfl)) (Z7 rfl hi hd h2) ?_
  show Ow k.F mo x=_
  rw[hF];exact IC (Qm _ Ql)
 by_cases c1:x.val ρ < le.val ρ
 ·refine ⟨le,?_,by unfold Yq;rw[if_pos c1]⟩
  have b:W4.body k l σ= .ret (.int le) σ:=by
   refine YV ?_
   rw[JX t1,Qo c1]
   exact YV (WD (Z7 rfl hi hd h1))
  show Ze (W4.body k l σ)=_
  rw[b];rfl
 ·have s1:Yn (Xp 2 (Xb 38) (sA 42)) (Xd (Xq (sA 42)) Xg) Xg k l σ= .next l σ:=by rw[JX t1,Qn c1];rfl
  by_cases c2:mo.val ρ < x.val ρ
  ·refine ⟨mo,?_,by unfold Yq;rw[if_neg c1,if_pos c2]⟩
   have b:W4.body k l σ= .ret (.int mo) σ:=by
    refine (Xw s1).trans (YV (WD ?_))
    show ZI.to (Xp 4 (Xb 38) (sA 21) k l σ) _ _=_
    rw[t2,Qo c2]
    exact Z7 rfl hi hd h2
   show Ze (W4.body k l σ)=_
   rw[b];rfl
  ·refine ⟨x,?_,by unfold Yq;rw[if_neg c1,if_neg c2]⟩
   have b:W4.body k l σ= .ret (.int x) σ:=by
    refine (Xw s1).trans (YV (WD ?_))
    show ZI.to (Xp 4 (Xb 38) (sA 21) k l σ) _ _=_
    rw[t2,Qn c2]
    exact Xy rfl
   show Ze (W4.body k l σ)=_
   rw[b];rfl
noncomputable abbrev TB3:=List (LI×LI×LI×LI)
def DH:TB3->LI->LI->LI->Option LI
 | [],_,_,_=>none
 |(x,le,mo,r)::t,y,le',mo'=>bc (Wh x y) (bc (Wh le le') (bc (Wh mo mo') (some r) (DH t y le' mo')) (DH t y le' mo')) (DH t y le' mo')
theorem Xcq:∀{t:TB3}{x le mo r:LI},DH t x le mo=some r->(x,le,mo,r)∈t:=by
 intro ux
 induction ux with
 |cons ua t ih=>
  obtain ⟨x',le',mo',r'⟩:=ua
  intro x le mo r h
  replace h:bc (Wh x' x) (bc (Wh le' le) (bc (Wh mo' mo) (some r') (DH t x le mo)) (DH t x le mo)) (DH t x le mo)=some r:=h
  induction q1:Wh x' x with
  |false=>rw[q1] at h;exact Qm _ (ih h)
  |true=>
   rw[q1] at h
   induction q2:Wh le' le with
   |false=>rw[q2] at h;exact Qm _ (ih h)
   |true=>
    rw[q2] at h
    induction q3:Wh mo' mo with
    |false=>rw[q3] at h;exact Qm _ (ih h)
    |true=>
     rw[q3] at h
     obtain rfl:=QV h
     rw[Z0 q1,Z0 q2,Z0 q3]
     exact Ql
 |nil=>
  intro v0 v1 v2 v3 v4
  contradiction
def BM(ρ:Nat->Int)(t:TB3):Prop:=∀x le mo r,(x,le,mo,r)∈t->r.val ρ=Yq (x.val ρ) (le.val ρ) (mo.val ρ)
def Xnj(t:TB3)(σ:St)(x:LI):Option O->Option Xu
 |some (.flds c fs)=>bc (Nat.beq c 394) (oc (Xh fs 42) none λle=>oc (Xh fs 21) none λmo=>oc (Zl le) none λle=>oc (Zl mo) none λmo=>oc (DH t x le mo) none λr=>some (.ok (.int r) σ)) none
 |_=>none
def Xnk(t:TB3)(σ:St)(x:LI):Option O->Option Xu
 |some (.inst c d)=>bc (Nat.beq c 394) (Xnj t σ x (σ.h.get d)) none
 |_=>none
theorem W6{x:LI}(h:Zl v=some x):v= .int x:=by
 cases v<;>first |(cases h;rfl) |cases h
set_option tactic.hygienic true in
theorem XcM(OK:C.Ok)(Rx:C.cells=[])(Ry:C.cellv=[])(hK:C.K=KF P){t:TB3}(HB:BM C.ρ t)(gd:X5 A 2){Ro Rq σ}(R:Rp C Ro Rq σ s.heap){a:Nat}(ha:Ro[i]?=some a){x:LI}{z:Int}{tk:Tok}(hz:x.val C.ρ=z)(e:Xnk t σ x (σ.h.get i)=some (.ok v σ'))
  {Q:Result->Rk->Prop}(hq:N0 C Ro Rq s σ' v Q):
  codeAny (model C.prog C.w) A (.call (.ref 391) ⟨[.ref a,.int z tk],[]⟩) Q s:=by
 induction z0:σ.h.get i with
 |none=>rw[z0] at e;exact Xx e
 |some o=>
  rw[z0] at e
  refine Zx λ_ kk=>?_
  induction o<;>first |exact Xx e |(refine kk ?_;clear kk)
  rename_i c d
  refine Wg (show bc (Nat.beq c 394) (Xnj t σ x (σ.h.get d)) none=_ from e) λh1 ee=>?_
  clear e
  have hc:=Qi h1
  subst hc
  induction z1:σ.h.get d with
  |none=>rw[z1] at ee;exact Xx ee
  |some o=>
   rw[z1] at ee
   refine Zx λ_ kk=>?_
   induction o<;>first |exact Xx ee |(refine kk ?_;clear kk)
   rename_i c' fs
   refine Wg (show bc (Nat.beq c' 394) (oc (Xh fs 42) none λle=>oc (Xh fs 21) none λmo=>oc (Zl le) none λle=>oc (Zl mo) none λmo=>oc (DH t x le mo) none λr=>some (Xu.ok (.int r) σ)) none=_ from ee) λh2 e=>?_
   clear ee
   have hc:=Qi h2
   subst hc
   refine Z8 e λle0 f1 e=>?_
   refine Z8 e λmo0 f2 e=>?_
   refine Z8 e λle f3 e=>?_
   refine Z8 e λmo f4 e=>?_
   refine Z8 e λr f5 e=>?_
   replace hq:=hq.eqo e
   rw[W6 f3] at f1
   rw[W6 f4] at f2
   refine YB (GO (G:=[]) (j:=1) (ρ:=C.ρ) (x:=x) z0 z1 f1 f2) λr0 er hr0=>?_
   have cal:XB C (2 + 0) (run (XW ([GC x le,GC mo x].map (UA C.ρ)) []) 2):=Um Rx OK rfl rfl IM WC (Nu OK Ry hK) Ww 2
   refine cal A gd (.fn 391) _ _ _ _ Ro Rq s (.ref 391) _ er R (.fn 391) (.cons (.ref i a ha) (.cons (.int _ _ _ hz) .nil)) Q λh' k Rr Rt val G' R' V'=>hq h' k Rr Rt val G' R' ?_
   have:=HB _ _ _ _ (Xcq f5)
   refine V'.intF λz1 tt e1=>?_
   exact .int _ _ _ (by rw[this,←hr0];exact e1)
def OI(ρ:Nat->Int)(a b:LI):LI:=if a.val ρ < b.val ρ then b else a
def OJ(ρ:Nat->Int)(a b:LI):LI:=if b.val ρ < a.val ρ then b else a
def Kt(a b:Int):Int:=if a < b then b else a
def OM(a b:Int):Int:=if b < a then b else a
theorem Ks{a b:LI}:(OI ρ a b).val ρ=Kt (a.val ρ) (b.val ρ):=by
 unfold OI Kt;split<;>rfl
theorem Kw{a b:LI}:(OJ ρ a b).val ρ=OM (a.val ρ) (b.val ρ):=by
 unfold OJ OM;split<;>rfl
theorem Xeb{L:List LI}{a b:LI}(h:GC a b∈L):D9 (L.map (UA ρ)) a [.int b]=some (OI ρ a b):=by
 show oc (Ow (L.map (UA ρ)) a b) none (λc=>bc c (some b) (some a))=_
 rw[IC h]
 unfold OI
 by_cases c:a.val ρ < b.val ρ
 ·rw[Qo c,if_pos c]
 ·rw[Qn c,if_neg c]
theorem Xee{L:List LI}{a b:LI}(h:GC b a∈L):OL (L.map (UA ρ)) a [.int b]=some (OJ ρ a b):=by
 show oc (Ow (L.map (UA ρ)) b a) none (λc=>bc c (some b) (some a))=_
 rw[IC h]
 unfold OJ
 by_cases c:b.val ρ < a.val ρ
 ·rw[Qo c,if_pos c]
 ·rw[Qn c,if_neg c]
def okM(x:LI):Bool:=match x.lit? with
 |some k=>Up k
 |none=>true
theorem Xg4{a b:LI}(h1:okM a=true)(h2:okM b=true):okM (OI ρ a b)=true:=by unfold OI;split<;>assumption
theorem Xg5{a b:LI}(h1:okM a=true)(h2:okM b=true):okM (OJ ρ a b)=true:=by unfold OJ;split<;>assumption
theorem Xsl{a:LI}{c:Int}(h:okM a=true)(h0:0<=c)(h1:c<=4611686018427387903):∃z,ZD G 2 a (Xn c)=some z/\z.val ρ=a.val ρ * c:=by
 have hc:XbI a (Xn c)=(match a.lit? with
  |some k=>bc (Up k) (some ((Xn c).smul k)) none
  |none=>bc (Up c) (some (a.smul c)) none):=rfl
 unfold okM at h
 induction q:a.lit? with
 |some k=>
  rw[q] at h hc
  dsimp only at h hc
  rw[h] at hc
  refine ⟨(Xn c).smul k,?_,?_⟩
  ·show @Option.rec LI (λ_=>Option LI) (WQ G 2 a (Xn c)) (λr=>some r) (XbI a (Xn c))=_
   rw[hc]
  ·rw[U6,Xs,XH q]
 |none=>
  rw[q] at hc
  dsimp only at hc
  rw[Do h0 h1] at hc
  refine ⟨a.smul c,?_,?_⟩
  ·show @Option.rec LI (λ_=>Option LI) (WQ G 2 a (Xn c)) (λr=>some r) (XbI a (Xn c))=_
   rw[hc]
  ·rw[U6,Int.mul_comm]
def Dw(fi le mo:Int)(n:Nat):Int:=OM (Kt (OM (Kt fi le) mo * 2 ^ n) le) mo
theorem XcI{a b:M}{x y:LI}(h1:a k l σ= .ok (.int x) σ)(h2:b k l σ= .ok (.int y) σ)(h:D9 k.F x [.int y]=some z):YI 2 (Xa a (Xa b Xe)) k l σ= .ok (.int z) σ:=by
 show Yj.to (Xa a (Xa b Xe) k l σ) _ _=_
 rw[XK h1 (XK h2 rfl)]
 show oc (D9 k.F x [.int y]) .no (λm=>Xu.ok (.int m) σ)=_
 rw[h]
theorem XcJ{a b:M}{x y:LI}(h1:a k l σ= .ok (.int x) σ)(h2:b k l σ= .ok (.int y) σ)(h:OL k.F x [.int y]=some z):YI 1 (Xa a (Xa b Xe)) k l σ= .ok (.int z) σ:=by
 show Yj.to (Xa a (Xa b Xe) k l σ) _ _=_
 rw[XK h1 (XK h2 rfl)]
 show oc (OL k.F x [.int y]) .no (λm=>Xu.ok (.int m) σ)=_
 rw[h]
theorem Xfn{d:Nat}{fi le mo:LI}(hi:σ.h.get i=some (.inst 863 d))(hd:σ.h.get d=some (.flds 863 fs))(h0:Xh fs 118=some (.int fi))(h1:Xh fs 119=some (.int le))(h2:Xh fs 120=some (.int mo))
  (o0:okM fi=true)(o1:okM le=true)(o2:okM mo=true)(hn:n<=30):
  ∃(L:List LI)(r:LI),run (XW (L.map (UA ρ)) G) (j + 1) (.fn 1301) [.ref i,.int (Xn n)] σ= .ok (.int r) σ/\r.val ρ=Dw (fi.val ρ) (le.val ρ) (mo.val ρ) n:=by
 let r1:=OI ρ fi le
 let r2:=OJ ρ r1 mo
 have hp:(2:Int) ^ n<=4611686018427387903:=by
  have:(2:Int) ^ n<=2 ^ 30:=by
   have h:(2:Nat) ^ n<=2 ^ 30:=Nat.pow_le_pow_right (by decide) hn
   exact_mod_cast h
  lia
 refine YB (Xsl (G:=G) (ρ:=ρ) (a:=r2) (c:=2 ^ n) (Xg5 (Xg4 o0 o1) o2) (Int.le_of_lt (Int.pow_pos (by decide))) hp) λr3 hr3 hr3v=>?_
 let r4:=OI ρ r3 le
 let r5:=OJ ρ r4 mo
 let L:List LI:=[GC fi le,GC mo r1,GC r3 le,GC mo r4]
 refine ⟨L,r5,?_,?_⟩
 ·rw[ZN rfl XgB rfl]
  generalize hk:Ik (XW (L.map (UA ρ)) G) (run (XW (L.map (UA ρ)) G) j)=k
  have hF:k.F=L.map (UA ρ):=by rw[←hk];rfl
  have hG:k.G=G:=by rw[←hk];rfl
  let l:YG:=[(123,.ref i),(177,.int (Xn n))]
  let l1:YG:=XM l 20 (.int r2)
  have s1:Xz 20 (YI 1 (Xa (YI 2 (Xa (Xj (Xb 123) 118) (Xa (Xj (Xb 123) 119) Xe))) (Xa (Xj (Xb 123) 120) Xe))) k l σ= .next l1 σ:=
   Xcp (XcJ (XcI (Z7 rfl hi hd h0) (Z7 rfl hi hd h1) (by rw[hF];exact Xeb Ql)) (Z7 rfl hi hd h2) (by rw[hF];exact Xee (Qm _ Ql)))
  have p1:Xo 5 (Xf 2) (Xb 177) k l1 σ= .ok (.int (Xn (2 ^ n))) σ:=by
   refine YZ (show Xf 2 k l1 σ= .ok (.int (Xn 2)) σ from rfl) (Xy (show Xh l1 177=some (.int (Xn n)) from rfl)) ?_
   show @Option.rec LI (λ_=>Option LI) (WQ k.G 5 (Xn 2) (Xn n)) (λr=>some r) (bc (Nat.ble n 30) (bc (U2 2) (some (Xn (2 ^ n))) none) none)=_
   rw[QD hn]
   rfl
  have p2:Xo 2 (Xb 20) (Xo 5 (Xf 2) (Xb 177)) k l1 σ= .ok (.int r3) σ:=YZ (Xy (show Xh l1 20=some (.int r2) from rfl)) p1 (by rw[hG];exact hr3)
  have b:IZ.body k l σ= .ret (.int r5) σ:=by
   refine (Xw s1).trans (YV (WD ?_))
   exact XcJ (XcI p2 (Z7 rfl hi hd h1) (by rw[hF];exact Xeb (Qm _ (Qm _ Ql)))) (Z7 rfl hi hd h2) (by rw[hF];exact Xee (Qm _ (Qm _ (Qm _ Ql))))
  show Ze (IZ.body k l σ)=_
  rw[b];rfl
 ·show (OJ ρ r4 mo).val ρ=_
  rw[Kw]
  show OM ((OI ρ r3 le).val ρ) (mo.val ρ)=_
  rw[Ks,hr3v]
  show OM (Kt ((OJ ρ r1 mo).val ρ * 2 ^ n) (le.val ρ)) (mo.val ρ)=_
  rw[Kw]
  show OM (Kt (OM ((OI ρ fi le).val ρ) (mo.val ρ) * 2 ^ n) (le.val ρ)) (mo.val ρ)=_
  rw[Ks]
  rfl
noncomputable abbrev TW:=List (LI×LI×LI×Nat×LI)
def Xct:TW->LI->LI->LI->Nat->Option LI
 | [],_,_,_,_=>none
 |(x,le,mo,n,r)::t,y,le',mo',m=>bc (Nat.beq n m&&(Wh x y&&(Wh le le'&&Wh mo mo'))) (some r) (Xct t y le' mo' m)
theorem Xcu:∀{t:TW}{x le mo r:LI}{n:Nat},Xct t x le mo n=some r->(x,le,mo,n,r)∈t:=by
 intro ux
 induction ux with
 |cons ua t ih=>
  obtain ⟨x',le',mo',n',r'⟩:=ua
  intro x le mo r n h
  replace h:bc (Nat.beq n' n&&(Wh x' x&&(Wh le' le&&Wh mo' mo))) (some r') (Xct t x le mo n)=some r:=h
  induction q:(Nat.beq n' n&&(Wh x' x&&(Wh le' le&&Wh mo' mo))) with
  |false=>rw[q] at h;exact Qm _ (ih h)
  |true=>
   rw[q] at h
   obtain rfl:=QV h
   refine b4 q λq0 q1 q2 q3=>?_
   rw[Qi q0,Z0 q1,Z0 q2,Z0 q3]
   exact Ql
 |nil=>
  intro v0 v1 v2 v3 v4 v5
  contradiction
def DF(ρ:Nat->Int)(t:TW):Prop:=∀x le mo n r,(x,le,mo,n,r)∈t->n<=30/\okM x=true/\okM le=true/\okM mo=true/\r.val ρ=Dw (x.val ρ) (le.val ρ) (mo.val ρ) n
def Xjz:Option Int->Option Nat
 |some (.ofNat n)=>some n
 |_=>none
def Xj3(t:TW)(σ:St)(n:Nat):Option O->Option Xu
 |some (.flds c fs)=>bc (Nat.beq c 863) (oc (Xh fs 118) none λx=>oc (Xh fs 119) none λle=>oc (Xh fs 120) none λmo=>oc (Zl x) none λx=>oc (Zl le) none λle=>oc (Zl mo) none λmo=>oc (Xct t x le mo n) none λr=>some (.ok (.int r) σ)) none
 |_=>none
def Xj4(t:TW)(σ:St)(n:Nat):Option O->Option Xu
 |some (.inst c d)=>bc (Nat.beq c 863) (Xj3 t σ n (σ.h.get d)) none
 |_=>none
set_option tactic.hygienic true in
theorem Xb9(OK:C.Ok)(Rx:C.cells=[])(Ry:C.cellv=[])(hK:C.K=KF P){t:TW}(HB:DF C.ρ t)(gd:X5 A 2){Ro Rq σ}(R:Rp C Ro Rq σ s.heap){a:Nat}(ha:Ro[i]?=some a){tk:Tok}(e:Xj4 t σ n (σ.h.get i)=some (.ok v σ'))
  {Q:Result->Rk->Prop}(hq:N0 C Ro Rq s σ' v Q):
  codeAny (model C.prog C.w) A (.call (.ref 1301) ⟨[.ref a,.int (n:Int) tk],[]⟩) Q s:=by
 induction z0:σ.h.get i with
 |none=>rw[z0] at e;exact Xx e
 |some o=>
  rw[z0] at e
  refine Zx λ_ kk=>?_
  induction o<;>first |exact Xx e |(refine kk ?_;clear kk)
  rename_i c d
  refine Wg (show bc (Nat.beq c 863) (Xj3 t σ n (σ.h.get d)) none=_ from e) λh1 ee=>?_
  clear e
  have hc:=Qi h1
  subst hc
  induction z1:σ.h.get d with
  |none=>rw[z1] at ee;exact Xx ee
  |some o=>
   rw[z1] at ee
   refine Zx λ_ kk=>?_
   induction o<;>first |exact Xx ee |(refine kk ?_;clear kk)
   rename_i c' fs
   refine Wg (show bc (Nat.beq c' 863) (oc (Xh fs 118) none λx=>oc (Xh fs 119) none λle=>oc (Xh fs 120) none λmo=>oc (Zl x) none λx=>oc (Zl le) none λle=>oc (Zl mo) none λmo=>oc (Xct t x le mo n) none λr=>some (Xu.ok (.int r) σ)) none=_ from ee) λh2 e=>?_
   clear ee
   have hc:=Qi h2
   subst hc
   refine Z8 e λx0 f0 e=>?_
   refine Z8 e λle0 f1 e=>?_
   refine Z8 e λmo0 f2 e=>?_
   refine Z8 e λx f3 e=>?_
   refine Z8 e λle f4 e=>?_
   refine Z8 e λmo f5 e=>?_
   refine Z8 e λr f6 e=>?_
   replace hq:=hq.eqo e
   rw[W6 f3] at f0
   rw[W6 f4] at f1
   rw[W6 f5] at f2
   refine x05 (HB _ _ _ _ _ (Xcu f6)) λb1 b2 b3 b4 b5=>?_
   refine Y5 (Xfn (G:=[]) (j:=1) (ρ:=C.ρ) z0 z1 f0 f1 f2 b2 b3 b4 b1) λL r0 er hr0=>?_
   have cal:XB C (2 + 0) (run (XW (L.map (UA C.ρ)) []) 2):=Um Rx OK rfl rfl IM WC (Nu OK Ry hK) Ww 2
   refine cal A gd (.fn 1301) _ _ _ _ Ro Rq s (.ref 1301) _ er R (.fn 1301) (.cons (.ref i a ha) (.cons (.int _ _ _ (Xs _ _)) .nil)) Q λh' k Rr Rt val G' R' V'=>hq h' k Rr Rt val G' R' ?_
   refine V'.intF λz1 tt e1=>?_
   exact .int _ _ _ (by rw[b5,←hr0];exact e1)
theorem XgA:Mg.get 1287=some IY:=rfl
theorem Xe6{p q:Int}(h:0 < top):0<=(YA p q top).1/\(YA p q top).1 < top:=by
 unfold YA
 split
 ·exact ⟨Int.emod_nonneg _ (by lia),Int.emod_lt_of_pos _ h⟩
 ·exact ⟨Int.emod_nonneg _ (by lia),Int.emod_lt_of_pos _ h⟩
theorem Xg7{tq:Nat}{p q:Int}{ts:List Int}{x:Int}(hi:σ.h.get i=some (.list [.int (Xn p),.int (Xn q)]))(ht:σ.h.get tq=some (.list (XF ts)))(hne:tq≠i)(hi2:i < 65535)(hl0:0 < ts.length)(hl:ts.length<=1000)(hq0:0<=q)(hq:q < 2147483647)
  (hn:(YA p q ts.length).1=(n:Int))(hx:ts[n]?=some x):
  run (XW F G) 2 (.fn 1287) [.ref i,.ref tq] σ= .ok (.int (Xn x)) (σ.put i (.list [.int (Xn (YA p q ts.length).2.1),.int (Xn (YA p q ts.length).2.2)])):=by
 rw[ZN (j:=1) rfl XgA rfl]
 generalize hk:Ik (XW F G) (run (XW F G) 1)=k
 have hc:k.call=run (XW F G) 1:=by rw[←hk];rfl
 let l:YG:=[(171,.ref i),(174,.ref tq)]
 have hlen:YI 0 (Xa (Xb 174) Xe) k l σ= .ok (.int (Xn ts.length)) σ:=by
  show (Xa (Xb 174) Xe k l σ).to Xu.no (biV k.F 0)=_
  rw[XK (Xy (show Xh l 174=some (.ref tq) from rfl)) rfl]
  show Xk0 σ (σ.h.get tq)=_
  rw[ht]
  show Xbz (Uy (XF ts)) σ=_
  rw[Y6]
  unfold XF
  rw[Qs]
  show bc (Nat.ble ts.length 60000) (Xu.ok (.int (Xn (Int.ofNat ts.length))) σ) .no=_
  rw[QD (by lia)]
  rfl
 let σ1:=σ.put i (.list [.int (Xn (YA p q ts.length).2.1),.int (Xn (YA p q ts.length).2.2)])
 have hcall:Xk (.fn 1280) (Xa (Xb 171) (Xa (YI 0 (Xa (Xb 174) Xe)) Xe)) k l σ= .ok (.int (Xn n)) σ1:=by
  show Yj.to (Xa (Xb 171) (Xa (YI 0 (Xa (Xb 174) Xe)) Xe) k l σ) _ _=_
  rw[XK (Xy (show Xh l 171=some (.ref i) from rfl)) (XK hlen rfl)]
  show k.call (.fn 1280) [.ref i,.int (Xn ts.length)] σ=_
  rw[hc,Mb (j:=0) hi hi2 (by lia) (by lia) hq0 hq,hn]
 have b:IY.body k l σ= .ret (.int (Xn x)) σ1:=by
  refine YV (WD ?_)
  have hlt:n < ts.length:=(Qa hx).1
  refine Nq (n:=n) (its:=XF ts) (Xy (show Xh l 174=some (.ref tq) from rfl)) hcall ?_ (by lia) ?_
  ·exact (XV hne).trans ht
  ·unfold XF;rw[QE,hx];rfl
 show Ze (IY.body k l σ)=_
 rw[b];rfl
noncomputable abbrev TO:=List (List Int×LI×LI)
def I5:List Int->List V->Bool
 | [],[]=>true
 |k::ks,v::vs=>iK v false (λi=> @List.rec _ (λ_=>Bool) (decide (i.c=k)) (λ_ _ _=>false) i.t)&&I5 ks vs
 |_,_=>false
set_option tactic.hygienic true in
theorem Xbr:∀{ks:List Int}{vs:List V},I5 ks vs=true->vs=XF ks:=by
 intro ks
 induction ks with
 |nil=>
  intro vs h
  induction vs with
  |nil=>rfl
  |cons _ _ _=>exact ff h
 |cons k ks ih=>
  intro vs h
  induction vs with
  |nil=>exact ff h
  |cons v vs _=>
   refine b2 h λh1 h2=>iKE h1 Ri λi e h1=>?_
   rw[e,ih h2]
   obtain ⟨c,t⟩:=i
   induction t with
   |cons _ _ _=>exact ff h1
   |nil=>rw[show c=k from Qt h1];rfl
def Xcs:TO->List V->LI->Option (List Int×LI)
 | [],_,_=>none
 |(ks,d,r)::t,vs,e=>bc (I5 ks vs&&Wh d e) (some (ks,r)) (Xcs t vs e)
theorem XfJ:∀{t:TO}{vs:List V}{e:LI}{ks:List Int}{r:LI},Xcs t vs e=some (ks,r)->(ks,e,r)∈t/\vs=XF ks:=by
 intro ux
 induction ux with
 |cons ua t ih=>
  obtain ⟨ks',d,r'⟩:=ua
  intro vs e ks r h
  replace h:bc (I5 ks' vs&&Wh d e) (some (ks',r')) (Xcs t vs e)=some (ks,r):=h
  induction q:(I5 ks' vs&&Wh d e) with
  |false=>
   rw[q] at h
   obtain ⟨h1,h2⟩:=ih h
   exact ⟨Qm _ h1,h2⟩
  |true=>
   rw[q] at h
   cases h
   refine b2 q λq1 q2=>?_
   exact ⟨by rw[Z0 q2];exact Ql,Xbr q1⟩
 |nil=>
  intro v0 v1 v2 v3 v4
  contradiction
def IQ(ρ:Nat->Int)(t:TO):Prop:=∀ks d r,(ks,d,r)∈t->∀(n:Nat)(x:Int),d.val ρ=(n:Int)->ks[n]?=some x->r.val ρ=x
def XjK(t:TO)(σ:St)(i tq:Nat)(its:List V):Option O->Option Xu
 |some (.src ((tp,d)::r))=>oc (Xcs t its d) none λkr=>bc (decide (tp=(kr.1.length:Int))) (bc (Nat.blt i 65535) (bc (Nat.blt 0 kr.1.length) (some (.ok (.int kr.2) (σ.put i (.src r)))) none) none) none
 |_=>none
def XjL(t:TO)(σ:St)(i tq:Nat):Option O->Option Xu
 |some (.list its)=>XjK t σ i tq its (σ.h.get i)
 |_=>none
set_option tactic.hygienic true in
theorem Xes(OK:C.Ok)(Rx:C.cells=[])(Ry:C.cellv=[])(hK:C.K=KF P){t:TO}(HO:IQ C.ρ t)(gd:X5 A 2){Ro Rq σ}(R:Rp C Ro Rq σ s.heap){tq a b:Nat}(ha:Ro[i]?=some a)(hb:Ro[tq]?=some b)(e:XjL t σ i tq (σ.h.get tq)=some (.ok v σ'))
  {Q:Result->Rk->Prop}(hq:N0 C Ro Rq s σ' v Q):
  codeAny (model C.prog C.w) A (.call (.ref 1287) ⟨[.ref a,.ref b],[]⟩) Q s:=by
 induction zt:σ.h.get tq with
 |none=>rw[zt] at e;cases e
 |some ot=>
  rw[zt] at e
  cases ot<;>try (cases e;done)
  rename_i its
  replace e:XjK t σ i tq its (σ.h.get i)=some (.ok v σ'):=e
  induction z:σ.h.get i with
  |none=>rw[z] at e;cases e
  |some o=>
   rw[z] at e
   induction o<;>try (cases e;done)
   rename_i l
   induction l with
   |nil=>cases e
   |cons x r=>
    obtain ⟨tp,d⟩:=x
    refine Z8 (show oc (Xcs t its d) none (λkr=>bc (decide (tp=(kr.1.length:Int))) (bc (Nat.blt i 65535) (bc (Nat.blt 0 kr.1.length) (some (Xu.ok (.int kr.2) (σ.put i (.src r)))) none) none) none)=_ from e) λkr hkr e=>?_
    refine Wg e λh1 e=>?_
    refine Wg e λh2 e=>?_
    refine Wg e λh3 e=>?_
    replace hq:=hq.eqo e
    obtain ⟨ks,rr⟩:=kr
    have htp:tp=(ks.length:Int):=Qt h1
    subst htp
    have hi2:i < 65535:=Nat.blt_eq.mp h2
    have hpos:0 < ks.length:=Nat.blt_eq.mp h3
    obtain ⟨hmem,rfl⟩:=XfJ hkr
    have hne:tq≠i:=by rintro rfl;rw[zt] at z;cases z
    refine YO (R.obj i _ z) λb' f1 f2 zz1=>?_;refine x55 zz1 λp q t1 u1 n1 g1 g2 g3 g4 g5=>?_
    rw[ha] at f1
    obtain rfl:=QV f1
    refine Mf g5 λd1 d2 d3 d4=>?_
    have hlen:ks.length<=1000:=by lia
    have R1:Rp C Ro Rq (σ.put i (.list [.int (Xn p),.int (Xn q)])) s.heap:=by
     refine ⟨R.len,R.old,R.keep,R.big,λn o e=>?_⟩
     rcases Tr.set_get e with ⟨rfl,rfl⟩ |⟨hn,e⟩
     ·exact ⟨a,ha,f2,_,n1,g1,.cons (.int _ _ _ (Xs _ _)) (.cons (.int _ _ _ (Xs _ _)) .nil)⟩
     ·exact R.obj n o e
    have cal:XB C (2 + 0) (run (XW [] []) 2):=Um Rx OK rfl rfl UK WC (Nu OK Ry hK) Ww 2
    obtain ⟨w1,w2⟩:=Xe6 (p:=p) (q:=q) d1
    have hnn:(YA p q ks.length).1=((YA p q ks.length).1.toNat:Int):=by lia
    have hlt:(YA p q ks.length).1.toNat < ks.length:=by lia
    have er:=Xg7 (F:=[]) (G:=[]) (σ:=σ.put i (.list [.int (Xn p),.int (Xn q)])) (tq:=tq) (Yd hi2) ((XV hne).trans zt) hne hi2 hpos hlen g3 g4 hnn (Qq hlt)
    refine YF (Dt (top:=(ks.length:Int)) g2 g3 g4 d1) λs1 s2 s3=>?_
    refine cal A gd (.fn 1287) _ _ _ _ Ro Rq s (.ref 1287) _ er R1 (.fn 1287) (.cons (.ref i a ha) (.cons (.ref tq b hb) .nil)) Q λh' k Rr Rt val G' R' V'=>?_
    refine hq h' k Rr Rt val G' ⟨R'.len,R'.old,R'.keep,R'.big,λn o e=>?_⟩ ?_
    ·by_cases hn:n=i
     ·rw[hn,Yd hi2] at e
      rw[hn]
      obtain rfl:=QV e
      refine YO (R'.obj i (.list [.int (Xn (YA p q ks.length).2.1),.int (Xn (YA p q ks.length).2.2)]) (Yd hi2)) λb k1 k2 zz2=>?_;refine Y5 zz2 λvs n2 k3 k4=>?_
      refine ⟨b,k1,k2,?_⟩
      obtain ⟨tt1,tt2,ev⟩:=k4.ints2
      rw[ev,Xs,Xs] at k3
      exact ⟨_,_,_,_,_,k3,s1,s2,s3,d4⟩
     ·have e1:(σ.put i (.src r)).h.get n=σ.h.get n:=XV hn
      rw[e1] at e
      refine R'.obj n o ?_
      rw[XV hn,XV hn];exact e
    ·have hr:=HO _ _ _ hmem _ _ (d3.trans hnn) (Qq hlt)
     cases V' with
     |int _ z1 tt e1=>
      rw[Xs] at e1
      exact .int _ _ _ (hr.trans e1)
def GH(u:V)(k:Nat->Option α):Option α:=match u with
 | .ref i=>k i
 |_=>none
@[elab_as_elim] theorem Xhr{k:Nat->Option α}{z:α}{m:V->Prop}(h:GH u k=some z)(f:∀i,k i=some z->m (.ref i)):m u:=by
 induction u<;>first |exact f _ h |exact Xx h
def BS(u:V)(k:LI->Option α):Option α:=match u with
 | .int i=>k i
 |_=>none
@[elab_as_elim] theorem XkS{k:LI->Option α}{z:α}{m:V->Prop}(h:BS u k=some z)(f:∀i,k i=some z->m (.int i)):m u:=by
 induction u<;>first |exact f _ h |exact Xx h
def Xco(u:V)(k:Nat->Option α):Option α:=match u with
 | .str i=>k i
 |_=>none
@[elab_as_elim] theorem Xp4{k:Nat->Option α}{z:α}{m:V->Prop}(h:Xco u k=some z)(f:∀i,k i=some z->m (.str i)):m u:=by
 induction u<;>first |exact f _ h |exact Xx h
def Bk(l:List V)(k:Nat->LI->Option α):Option α:=on2 l λa b=>GH a λi=>BS b (k i)
@[elab_as_elim] theorem OW{l:List V}{k:Nat->LI->Option α}{r:α}{m:List Rm->Prop}(e:Bk l k=some r)(Rs:YH ρ Ro l vs)
  (f:∀i x b z tk,Ro[i]?=some b->x.val ρ=z->k i x=some r->m [.ref b,.int z tk]):m vs:=by
 revert Rs
 refine KG e λa b e=>Xhr e λi e=>XkS e λx e=>?_
 intro Rs
 refine UB Rs.consI λ_ _ e1 r1 m1=>?_
 refine UB m1.consI λ_ _ e2 r2 m2=>?_
 refine YB r1.refI λb e3 hb=>?_
 refine Y5 r2.intI λz tk e4 hz=>?_
 have e5:=m2.nilI
 subst e1 e2 e3 e4 e5
 exact f i x b z tk hb hz e
def Xr9(F:XA)(s:St):List V->Option Xu
 |a::l=>on2 l λb c=>GH a λi=>BS b λk=>BS c λT=>oc k.lit? none λk=>Xpq F s i k T (s.h.get i)
 |_=>none
def Xr4(s:St)(l:List V):Option Xu:=Bk l λi k=>oc k.lit? none λk=>B1 s i k (s.h.get i)
def Xsb(s:St)(l:List V):Option Xu:=Bk l λi k=>oc k.lit? none λk=>Xj0 s i k (s.h.get i)
def Xr6(F:XA)(s:St)(l:List V):Option Xu:=Bk l λi N=>XnJ F s i N (s.h.get i)
def Xsa(s:St)(l:List V):Option Xu:=Bk l λi k=>oc k.lit? none λk=>XjZ s i k (s.h.get i)
def Xr3(tb:TB3)(s:St)(l:List V):Option Xu:=Bk l λi x=>Xnk tb s x (s.h.get i)
def Xsc(tw:TW)(s:St)(l:List V):Option Xu:=Bk l λi n=>oc (Xjz n.lit?) none λn=>Xj4 tw s n (s.h.get i)
def Xr8(t:TO)(s:St)(l:List V):Option Xu:=on2 l λa b=>GH a λi=>GH b λq=>XjL t s i q (s.h.get q)
noncomputable abbrev TFo:=List (Nat×Nat×V)
def BU:TFo->Nat->Nat->Option V
 | [],_,_=>none
 |(a,b,v)::r,x,y=>bc (Nat.beq a x&&Nat.beq b y) (some v) (BU r x y)
def Xr7(tf:TFo)(s:St)(l:List V):Option Xu:=on2 l λa b=>Xco a λx=>Xco b λy=>oc (BU tf x y) none λv=>some (.ok v s)
structure HT where
 tb:TB3
 tw:TW
 tf:TFo
 tc:TO
def hFn(F:XA)(t:HT)(a:Nat)(args:List V)(s:St):Option Xu:=
 bc (Nat.ble a 764) (bc (Nat.beq a 391) (Xr3 t.tb s args) none)
  (bc (Nat.ble a 832) (bc (Nat.beq a 820) (Xsb s args) (bc (Nat.beq a 813) (Xr4 s args) (bc (Nat.beq a 799) (Xr9 F s args) (bc (Nat.beq a 832) (Xr6 F s args) (bc (Nat.beq a 765) (Xr7 t.tf s args) none)))))
   (bc (Nat.ble a 1279) none (bc (Nat.beq a 1280) (Xsa s args) (bc (Nat.beq a 1301) (Xsc t.tw s args) (bc (Nat.beq a 1287) (Xr8 t.tc s args) none)))))
def Xr5(c:Nat)(args:List V)(s:St):Option Xu:=match args with
 | []=>bc (Nat.beq c 842) (some (UU s (.wheel [] none 0))) none
 |_=>none
def hkA(F:XA)(t:HT)(f:V)(args:List V)(s:St):Option Xu:=match f with
 | .fn a=>hFn F t a args s
 | .cls c=>Xr5 c args s
 |_=>none
def GD(C:Cx)(tf:TFo):Prop:=∀a b v,(a,b,v)∈tf->∀A,X5 A 2->∀(s:Rk)(x y:Str)(t u:Tok),(∀b o,C.H0.get? b=some o->s.heap.get? b=some o)->C.H0.objs.size<=s.heap.objs.size->Ih[a]?=some x->Ih[b]?=some y->∀Q:Result->Rk->Prop,
 (∀h' k val,(∀Ro,VR C.ρ Ro v val)->(∀b o,s.heap.get? b=some o->h'.get? b=some o)->C.H0.objs.size<=h'.objs.size->Q (.ok (.ret val)) {s with heap:=h',toks:=k})->codeAny (model C.prog C.w) A (.call (.ref 765) ⟨[.str x t,.str y u],[]⟩) Q s
theorem XaX:∀{t:TFo}{x y:Nat}{v:V},BU t x y=some v->(x,y,v)∈t:=by
 intro ux
 induction ux with
 |cons ua r ih=>
  obtain ⟨a,b,w⟩:=ua
  intro x y v h
  replace h:bc (Nat.beq a x&&Nat.beq b y) (some w) (BU r x y)=some v:=h
  induction q:(Nat.beq a x&&Nat.beq b y) with
  |false=>rw[q] at h;exact Qm _ (ih h)
  |true=>
   rw[q] at h
   cases h
   refine b2 q λq1 q2=>?_
   rw[Qi q1,Qi q2]
   exact Ql
 |nil=>
  intro v0 v1 v2 v3
  contradiction
theorem XgC{o:Option Xu}{s:St}(h:o.getD .no= .ok v s):o=some (.ok v s):=by
 induction o with
 |none=>exact Y3 h
 |some r=>exact congrArg some h
theorem Xeh{x:LI}(h:Xjz x.lit?=some n):x.lit?=some (n:Int):=by
 induction q:x.lit? with
 |none=>rw[q] at h;exact Xx h
 |some z=>
  rw[q] at h
  induction z with
  |ofNat m=>cases h;rfl
  |negSucc m=>exact Xx h
theorem Rp.grown(R:Rp C Ro Rq σ h)(hk:∀b o,h.get? b=some o->h'.get? b=some o):XJ (λ_=>False) Ro Rq h Ro Rq h'/\(C.H0.objs.size<=h'.objs.size->Rp C Ro Rq σ h'):=
 ⟨⟨Qy,λ_ _ _=>rfl,λb o e _ _=>hk b o e,λb o e=>⟨o,hk b o e⟩⟩,λhb=>⟨R.len,R.old,λb o e=>hk b o (R.keep b o e),hb,λi o e=>by
  refine YO (R.obj i o e) λa f1 f2 f3=>?_
  exact ⟨a,f1,f2,f3.mono f2 Qy (λb o _ e=>hk b o e) λ_ _=>rfl⟩⟩⟩
theorem Xkg{b:Bool}{x y r:Option Xu}{g:Prop}(h:bc b x y=r)(f:x=r->g)(k:y=r->g):g:=by
 induction b
 ·exact k h
 ·exact f h
@[elab_as_elim] theorem DK{a b:Nat}{x y r:Option Xu}{m:Nat->Prop}(h:bc (Nat.beq a b) x y=r)(f:x=r->m b)(k:y=r->m a):m a:=by
 cases q:Nat.beq a b
 ·rw[q] at h;exact k h
 ·rw[q] at h;rw[Qi q];exact f h
theorem Xak(OK:C.Ok)(Rx:C.cells=[])(Ry:C.cellv=[])(hK:C.K=KF P)(HF:Xm C.ρ F){t:HT}(HB:BM C.ρ t.tb)(HW:DF C.ρ t.tw)(HFo:GD C t.tf)(HO:IQ C.ρ t.tc):Mk C 2 (hkA F t):=by
 intro A g f args σ v σ' Ro Rq s fv vs e R Rf Rs Q h
 replace e:=XgC e
 have lits:∀{x:LI}{k:Int}{z:Int},x.lit?=some k->x.val C.ρ=z->z=k:=λhx hz=>hz.symm.trans (XH hx)
 induction f with
 |fn a=>
  refine Rf.fnE ?_
  refine Xkg (show bc _ _ _=some (Xu.ok v σ') from e) (λe=>DK e (λe=>OW e Rs λi x b z tk hb hz he=>XcM OK Rx Ry hK HB g R hb hz he h) Xx) λe=>Xkg e (λe=>?_) λe=>Xkg e Xx λe=>?_
  ·refine DK e (λe=>OW e Rs λi x b z tk hb hz he=>Z8 he λk hk he=>?_) λe=>DK e (λe=>OW e Rs λi x b z tk hb hz he=>Z8 he λk hk he=>?_) λe=>DK e (λe=>?_) λe=>DK e (λe=>OW e Rs λi x b z tk hb hz he=>Xc5 OK Rx Ry hK HF g R hb hz he h) λe=>DK e (λe=>?_) Xx
   ·rw[lits hk hz]
    exact Xb5 OK Rx Ry hK g R hb he h
   ·rw[lits hk hz]
    exact GS OK Rx Ry hK g R hb he h
   ·induction args with
    |nil=>exact Xx e
    |cons a0 l=>
     refine Rs.consE λ_ _ r1 m1=>?_
     revert m1
     refine KG (show on2 l _=_ from e) λb0 c0 e=>?_
     intro m1
     refine m1.consE λ_ _ r2 m2=>?_
     refine m2.consE λ_ _ r3 m3=>?_
     refine m3.nilE ?_
     revert r1 r2 r3
     refine Xhr e λi e=>XkS e λk0 e=>XkS e λT e=>Z8 e λk hk e=>?_
     intro r1 r2 r3
     refine r1.refE λb hb=>?_
     refine r2.intF λz tk hz=>?_
     refine r3.intF λz2 tk2 hz2=>?_
     rw[lits hk hz]
     exact XeE OK Rx Ry hK HF g R hb hz2 e h
   ·revert Rs
    refine KG e λa0 b0 e=>Xp4 e λx e=>Xp4 e λy e=>Z8 e λw hw e=>?_
    intro Rs
    replace h:=h.eqo e
    refine Rs.consE λ_ _ r1 m1=>?_
    refine m1.consE λ_ _ r2 m2=>?_
    refine m2.nilE ?_
    refine r1.strE λsx tx hx=>?_
    refine r2.strE λsy ty hy=>?_
    refine HFo _ _ _ (XaX hw) A g s sx sy tx ty R.keep R.big hx hy Q λh' k val hv hk hle=>?_
    obtain ⟨g1,g2⟩:=R.grown hk
    exact h h' k Ro Rq val g1 (g2 hle) (hv Ro)
  ·refine DK e (λe=>OW e Rs λi x b z tk hb hz he=>Z8 he λk hk he=>?_) λe=>DK e (λe=>OW e Rs λi x b z tk hb hz he=>Z8 he λn hn he=>?_) λe=>DK e (λe=>?_) Xx
   ·rw[lits hk hz]
    exact Xb2 OK Rx Ry hK g R hb he h
   ·rw[lits (Xeh hn) hz]
    exact Xb9 OK Rx Ry hK HW g R hb he h
   ·revert Rs
    refine KG e λa0 b0 e=>Xhr e λi e=>Xhr e λq e=>?_
    intro Rs
    refine Rs.consE λ_ _ r1 m1=>?_
    refine m1.consE λ_ _ r2 m2=>?_
    refine m2.nilE ?_
    refine r1.refE λb1 hb1=>?_
    refine r2.refE λb2 hb2=>?_
    exact Xes OK Rx Ry hK HO g R hb1 hb2 e h
 |cls c=>
  refine Rf.clsE ?_
  induction args with
  |nil=>
   refine Wg (show bc (Nat.beq c 842) (some (UU σ (.wheel [] none 0))) none=some (Xu.ok v σ') from e) λc2 e=>?_
   have:=Qi c2
   subst this
   refine Rs.nilE ?_
   replace h:=h.eqo e
   exact Xei OK Rx Ry hK g R h
  |cons a l=>exact Xx e
 |_=>exact Xx e
def Yt:Str:=QW "tcb"
def ZT:List Stmt:=(Yk 100).2.1
def Nn:Scope:=(Yk 100).2.2
def Xse:Option α->Bool
 |some _=>true
 |none=>false
theorem tT1:XC Nn.names Yt=some .cell:=by kernel_rfl
theorem tT3:Xse (XY Z6 [Yt] Nn [Yt] ZT.tail)=true:=by kernel_rfl
def Xai:Expr:=((XjX (N9 ZT 0))[0]?).getD default
abbrev Xdg:FuncData:=fdO "_law_tries_right" "_law_tries_right" (Yk 100) (Value.none) (Value.none) (Value.str (QW "law_pq1202_01") 1960) (Value.ref 1317)
def UM:M:=Xk (.fn 1294) (Xa (Xb 123) (Xa (Xk (.fn 1287) (Xa (Xb 171) (Xa (Yx (Xa (Xf 8) (Xa (Xf 12) (Xa (Xf 40) Xe)))) Xe))) Xe))
def XeU(x:Option MS):MS:=match x with
 |some y=>y
 |none=>Z4
def WH:MS:=XeU (XY Z6 [Yt] Nn [Yt] ZT.tail)
theorem Xff:XY Z6 [Yt] Nn [Yt] ZT.tail=some WH:=by
 unfold WH XeU
 have:=tT3
 induction q:XY Z6 [Yt] Nn [Yt] ZT.tail with
 |none=>rw[q] at this;exact ff this
 |some x=>rfl
def Xjq:Pos×Pos:=match ZT with
 | .Assign [.Name _ p] _ pos::_=>(p,pos)
 |_=>(⟨0,0,0,0⟩,⟨0,0,0,0⟩)
theorem Xfd:ZT= .Assign [.Name Yt Xjq.1] Xai Xjq.2::ZT.tail:=by kernel_rfl
theorem Xfe:Yi Z6 [Yt] 40 Nn [] Xai=some UM:=by kernel_rfl
theorem Xmv:Wv Xai=true:=by kernel_rfl
theorem Xmu:some Ws.body=some (Xd (Xz 137 UM) WH):=by kernel_rfl
theorem Xb7(n:Nat):cellsFrom n Nn.names []=[(Yt,n)]:=by kernel_rfl
theorem XhG:XC Nn.names (QW "source")=some .local/\XC Nn.names (QW "limits")=some .local/\XC Nn.names (QW "octets")=some .local/\XC Nn.names (QW "is_closing")=some .local:=⟨by kernel_rfl,by kernel_rfl,by kernel_rfl,by kernel_rfl⟩
theorem XhF:(Xan Nn.kind&&(!Nn.isCoroutine&& !Nn.isGenerator))=true:=by kernel_rfl
theorem Xfc(a b c d:Rm):bindArgs Xdg ⟨[a,b,c,d],[]⟩=pure [(QW "source",a),(QW "limits",b),(QW "octets",c),(QW "is_closing",d)]:=by kernel_rfl
theorem Xmw:Zc[171]?=some (QW "source")/\Zc[123]?=some (QW "limits")/\Zc[49]?=some (QW "octets")/\Zc[179]?=some (QW "is_closing")/\Zc[137]?=some Yt:=⟨by kernel_rfl,by kernel_rfl,by kernel_rfl,by kernel_rfl,by kernel_rfl⟩
noncomputable abbrev Cx.withCell(C:Cx)(c:Rn)(o:Obj)(z:Rm):Cx:={C with cells:=[(c,o)],cellv:=[(Yt,z)]}
theorem Rp.cell{c:Rn}{o:Obj}{z:Rm}{Ro Rq σ h}(R:Rp C Ro Rq σ h):Rp (C.withCell c o z) Ro Rq σ h:=⟨R.len,R.old,R.keep,R.big,R.obj⟩
theorem Rp.uncell{c:Rn}{o:Obj}{z:Rm}{Ro Rq σ h}(R:Rp (C.withCell c o z) Ro Rq σ h):Rp C Ro Rq σ h:=⟨R.len,R.old,R.keep,R.big,R.obj⟩
theorem XB.cell{c:Rn}{o:Obj}{z:Rm}(H:XB C n cal):XB (C.withCell c o z) n cal:=λA g f args σ v σ' Ro Rq s fv vs e R Rf Rs Q h=>
 H A g f args σ v σ' Ro Rq s fv vs e R.uncell Rf Rs Q λh' k Rr Rt val G R' V=>h h' k Rr Rt val G R'.cell V
theorem Ic(OK:C.Ok)(Rx:C.cells=[])(Ry:C.cellv=[])(hK:C.K=KF P)(HF:Xm C.ρ k.F)(HG:XS C.ρ k.G)(hcal:XB C n k.call)(kC:k.cls=Xr.get)(kW:k.wheelC=842)(g:X5 A (n + 1))
  {Ro Rq σ}{a1 a2 a3 a4:V}(R:Rp C Ro Rq σ s.heap)(Rs:YH C.ρ Ro [a1,a2,a3,a4] vs){τ:Option Nat->Option Nat}(hτ:τ none=none){σh:St}
  (hpre:∀{L own0 h m},At C L Ro own0 σ [(171,a1),(123,a2),(49,a3),(179,a4)] h m->At C L Ro (λb=>τ (own0 b)) σh [(171,a1),(123,a2),(49,a3),(179,a4)] h m)
  (q:UM k [(171,a1),(123,a2),(49,a3),(179,a4)] σh= .ok u σ1)(Q:Result->Rk->Prop)
  (tail:∀c o2 w env L Ru Rv h2 tk m1,(C.withCell c o2 w).Ok->Yu (C.withCell c o2 w) Nn [Yt] [Yt] L env->s.heap.get? L=none->Ro <+:Ru->(∀b o,s.heap.get? b=some o->Rv b=τ (Rq b))->(∀b o,s.heap.get? b=some o->Rq b=none->h2.get? b=some o)->(∀b o,s.heap.get? b=some o->∃o',h2.get? b=some o')->
   At (C.withCell c o2 w) L Ru Rv σ1 (XM [(171,a1),(123,a2),(49,a3),(179,a4)] 137 u) h2 m1->
   wpAny (model C.prog C.w) (A.deeper env) (execs ZT.tail env) (λfl s'=>Q (.ok (.ret (match fl with | .ret v=>v |_=> .none))) s') (λ_ _=>False) {s with heap:=h2,toks:=tk}):
  codeAny (model C.prog C.w) A (.call (.ref 1318) ⟨vs,[]⟩) Q s:=by
 have X0:C.K.In s.heap:=OK.inK.keeps R.keep
 have ho:C.K.lookup 1318=some ⟨.type "function",none,.func Xdg,#[]⟩:=by rw[hK];exact Xof P
 have hcd:codeIn C.K (Value.ref 1317) (QW "_law_tries_right")=true:=by rw[hK];exact Xn9 P
 refine Rs.consE λv1 _ r1 m1=>?_
 refine m1.consE λv2 _ r2 m2=>?_
 refine m2.consE λv3 _ r3 m3=>?_
 refine m3.consE λv4 _ r4 m4=>?_
 refine m4.nilE ?_
 have hg:A.depth < recursionLimit:=by show A.depth < 1000;have:=g.2.1;lia
 refine b3 XhF λtf1 tf2 tf3=>?_
 refine Mf XhG λq1 q2 q3 q4=>?_
 refine x05 Xmw λn1 n2 n3 n4 n5=>?_
 have lk:∀{x:Str}{q:NameKind},XC Nn.names x=some q->Xdg.scope.names.lookup x=some q:=λ{x q} hx=>by rw[←Jm];exact hx
 refine codeAny_call_cells (fd:=Xdg) (body:=ZT) hg (X0 _ _ ho) rfl (OK.top.nolimit.keeps R.keep) (codeRec_of X0 hcd) rfl (Xfc v1 v2 v3 v4) rfl (λx hx=>?_) (λs₁ x=>?_) (YY tf2) (YY tf3) (YM tf1)
 ·rcases Qe hx with rfl |hx
  ·exact .inl (lk q1)
  rcases Qe hx with rfl |hx
  ·exact .inl (lk q2)
  rcases Qe hx with rfl |hx
  ·exact .inl (lk q3)
  rcases Qe hx with rfl |hx
  ·exact .inl (lk q4)
  ·cases hx
 let L:=s.heap.objs.size
 let c:=s.heap.objs.size + 1
 have hL0:s.heap.get? L=none:=Ye _
 generalize henv:callEnvC Xdg s.heap.objs.size 1318=env at x ⊢
 have envL:env.locals=L:=by rw[←henv];rfl
 have envC:env.cells=[(Yt,c)]:=by rw[←henv];exact Xb7 _
 have envS:env.scope=Nn:=by rw[←henv];rfl
 have hE:ZC env L:=by rw[←henv];exact ⟨rfl,rfl,rfl,YM tf1⟩
 have kind:∀{x:Str}{q:NameKind},XC Nn.names x=some q->env.kindOf x=some q:=λ{x q} hx=>by show env.scope.names.lookup x=_;rw[envS,←Jm];exact hx
 refine Y5 x.done λh₁ tk hs₁ hkeep=>?_
 subst hs₁
 let own0:Rn->Option Nat:=Im s.heap Rq λ_=>none
 have hns:=x.toInCall.ns
 rw[envL] at hns
 let m0:Str->Option Rm:=bindL env.kindOf [(QW "source",v1),(QW "limits",v2),(QW "octets",v3),(QW "is_closing",v4)] λ_=>none
 have hm0:m0=λy=>if y=QW "is_closing" then some v4 else if y=QW "octets" then some v3 else if y=QW "limits" then some v2 else if y=QW "source" then some v1 else none:=by
  show bindL env.kindOf _ _=_
  unfold bindL;rw[if_pos (kind q1)]
  unfold bindL;rw[if_pos (kind q2)]
  unfold bindL;rw[if_pos (kind q3)]
  unfold bindL;rw[if_pos (kind q4)]
  rfl
 have lr0:LR C Ro [(171,a1),(123,a2),(49,a3),(179,a4)] m0:=by
  rw[hm0]
  have z:LR C Ro [] (λ_=>none):=λn v e=>by cases e
  have hc:∀x,C.cellv.lookup x=none:=λx=>by rw[Ry];rfl
  exact (((z.set n1 (hc _) r1).set n2 (hc _) r2).set n3 (hc _) r3).set n4 (hc _) r4
 have F0:Fr C.H0 L h₁ m0:=⟨hns,λb o e=>hkeep b o (R.keep b o e),R.big⟩
 have T0:At C L Ro own0 σ [(171,a1),(123,a2),(49,a3),(179,a4)] h₁ m0:=by
  refine ⟨⟨R.len,λb o e=>?_,λb o e=>hkeep b o (R.keep b o e),JS F0,λi o e=>?_⟩,F0,Jo hL0,lr0,λp hp=>by rw[Rx] at hp;cases hp⟩
  ·rw[show own0 b=Rq b from XZ (R.keep b o e)];exact R.old b o e
  ·refine YO (R.obj i o e) λa f1 f2 f3=>?_
   obtain ⟨y,hy⟩:=f3.live
   refine ⟨a,f1,(XZ hy).trans f2,f3.mono f2 Qy (λb o _ e=>hkeep b o e) λb hb=>?_⟩
   induction z:s.heap.get? b with
   |none=>rw[z] at hb;exact ff hb
   |some o=>exact XZ z
 have hlook:env.cells.lookup Yt=some c:=by rw[envC,Rd,QR]
 refine YB (x.cell Yt c hlook) λoc hoc hocd=>?_
 have hcL:c≠L:=Nat.ne_of_gt (QO _)
 have hc0:s.heap.get? c=none:=by
  induction z:s.heap.get? c with
  |none=>rfl
  |some o=>exact absurd (Qu z) (by show ¬s.heap.objs.size + 1 < s.heap.objs.size;lia)
 have hoc0:own0 c=none:=Jo hc0
 have Xc:Yu C Nn [] [Yt] L env:=⟨hE,envS,nofun,λx _=>by rw[Ry];rfl⟩
 have se:=YC (k:=k) (cv:=[Yt]) OK (JO hK) HF HG hcal kC kW 40 Nn [] L env Xc Xai UM Xfe
 refine wpAny_mono (Q:=λfl s'=>Q (.ok (.ret (match fl with | .ret v=>v |_=> .none))) s') (E:=λ_ _=>False) ?_ (λ_ _ x=>x) λ_ _ x=>x.elim
 rw[Xfd]
 refine QQ (wpAny_Assign_Name (se (A.deeper env) g.deeper Ro _ σh _ {s with heap:=h₁,toks:=tk} m0 u σ1 (hpre T0) q _ _ λh1 t1 Ru Rv m1 w G1 T1 R1=>?_) (J6 Xmv))
 have hoc0':τ (own0 c)=none:=by rw[hoc0];exact hτ
 have hoc1:h1.get? c=some oc:=G1.keep c oc hoc hoc0' hcL
 have hown1:Rv c=none:=(G1.same c oc hoc).trans hoc0'
 refine wpAny_storeName_cell hE.kind (kind tT1) hlook ⟨oc,hoc1,hocd⟩ λh2 hc2 hs2=>?_
 refine YB hc2 λo2 ho2 hd2=>?_
 have OK1:(C.withCell c o2 w).Ok:=⟨OK.inK,OK.top,OK.cls⟩
 have X1:Yu (C.withCell c o2 w) Nn [Yt] [Yt] L env:=⟨hE,envS,λy hy=>(by
  cases hy with
  |head=>exact ⟨c,o2,w,hlook,Ql,hd2,by show List.lookup Yt [(Yt,w)]=_;rw[Rd,QR]⟩
  |tail _ hy=>cases hy),λy hy=>(by
   show List.lookup y [(Yt,w)]=none
   rw[Rd]
   induction z:(y == Yt) with
   |false=>rfl
   |true=>
    rw[eq_of_beq z] at hy
    replace hy:bc (IL Yt Yt) true (GA [] Yt)=false:=hy
    rw[ZB] at hy
    exact tf hy)⟩
 have T2:At (C.withCell c o2 w) L Ru Rv σ1 (XM [(171,a1),(123,a2),(49,a3),(179,a4)] 137 u) h2 m1:=by
  refine ⟨⟨T1.rp.len,T1.rp.old,λb o e=>?_,by show C.H0.objs.size<=h2.objs.size;rw[hs2.1];exact T1.rp.big,λi o e=>?_⟩,⟨T1.fr.ns.sameBut hs2 (Ne.symm hcL),λb o e=>?_,T1.fr.above⟩,T1.ownL,?_,λp hp=>?_⟩
  ·have hb:=T1.rp.keep b o e
   have hbc:b≠c:=by
    rintro rfl
    have:=R.keep c o e
    rw[hc0] at this;exact Xx this
   exact (hs2.2 b hbc).trans hb
  ·refine YO (T1.rp.obj i o e) λa f1 f2 f3=>?_
   refine ⟨a,f1,f2,f3.mono f2 Qy (λb o' hb ho'=>?_) λ_ _=>rfl⟩
   exact (hs2.2 b (by rintro rfl;rw[hown1] at hb;cases hb)).trans ho'
  ·have hb:=T1.rp.keep b o e
   have hbc:b≠c:=by
    rintro rfl
    have:=R.keep c o e
    rw[hc0] at this;exact Xx this
   exact (hs2.2 b hbc).trans hb
  ·intro j y hj
   rw[Zh] at hj
   by_cases hj137:137=j
   ·subst hj137
    rw[if_pos rfl] at hj
    cases hj
    exact ⟨Yt,w,n5,by unfold IP;rw[show List.lookup Yt (C.withCell c o2 w).cellv=some w from (by show List.lookup Yt [(Yt,w)]=_;rw[Rd,QR])],R1⟩
   ·rw[if_neg hj137] at hj
    refine UB (T1.lr j y hj) λz yv g1 g2 g3=>?_
    refine ⟨z,yv,g1,?_,g3⟩
    have hz:(z == Yt)=false:=by
     induction hq:(z == Yt) with
     |false=>rfl
     |true=>
      rw[eq_of_beq hq] at g1
      exact absurd (Ix n5 g1) hj137
    have g2':=g2.here (by rw[Ry];rfl)
    unfold IP
    show (match List.lookup z [(Yt,w)] with |some z=>z=yv |none=>m1 z=some yv)
    rw[Rd,hz]
    exact g2'
  ·cases hp with
   |head=>exact ⟨hown1,ho2,hcL⟩
   |tail _ hp=>cases hp
 have ali:∀b o,s.heap.get? b=some o->b≠L/\b≠c/\own0 b=Rq b/\h₁.get? b=some o:=λb o e=>⟨(by rintro rfl;rw[hL0] at e;exact Xx e),(by rintro rfl;rw[hc0] at e;exact Xx e),XZ e,hkeep b o e⟩
 refine tail c o2 w env L Ru Rv h2 t1 m1 OK1 X1 hL0 G1.pre (λb o e=>?_) (λb o e hn=>?_) (λb o e=>?_) T2
 ·refine Mf (ali b o e) λk1 k2 k3 k4=>?_
  rw[G1.same b o k4,k3]
 ·refine Mf (ali b o e) λk1 k2 k3 k4=>?_
  exact (hs2.2 b k2).trans (G1.keep b o k4 (by rw[k3,hn];exact hτ) k1)
 ·refine Mf (ali b o e) λk1 k2 k3 k4=>?_
  obtain ⟨o1,ho1⟩:=G1.live b o k4
  exact ⟨o1,(hs2.2 b k2).trans ho1⟩
theorem Xfa(OK:C.Ok)(Rx:C.cells=[])(Ry:C.cellv=[])(hK:C.K=KF P)(hX1:X.top.cls=Xr.get)(hX2:X.top.wheelC=842)(HF:Xm C.ρ X.F)(HG:XS C.ρ X.G)(hcal:XB C n cal)(g:X5 A (n + 1))
  {Ro Rq σ}{args:List V}(R:Rp C Ro Rq σ s.heap)(Rs:YH C.ρ Ro args vs)(e:Zw X cal args σ (some Ws)= .ok v σ')(Q:Result->Rk->Prop)
  (h:N0 C Ro Rq s σ' v Q):
  codeAny (model C.prog C.w) A (.call (.ref 1318) ⟨vs,[]⟩) Q s:=by
 refine WA (show oc (Jg Ws.params args Ws.dflts) .no (λl=>Ze (Ws.body (Ik X cal) l σ))= .ok v σ' from e) λl e1 e2=>?_
 refine YF (GM e1) λb1 b2 b3=>?_
 refine x41 (XkZ (show args.length=4 from Nat.le_antisymm b1 b2)) λa1 a2 a3 a4 zz5=>?_;subst zz5
 have hl:l=[(171,a1),(123,a2),(49,a3),(179,a4)]:=b3
 subst hl
 have hk:Ik X cal=⟨X.F,X.G,Xr.get,842,cal⟩:=by unfold Ik;rw[hX1,hX2]
 rw[hk,QV Xmu] at e2
 induction q:UM ⟨X.F,X.G,Xr.get,842,cal⟩ [(171,a1),(123,a2),(49,a3),(179,a4)] σ with
 |no=>
  have:Xd (Xz 137 UM) WH ⟨X.F,X.G,Xr.get,842,cal⟩ [(171,a1),(123,a2),(49,a3),(179,a4)] σ= .no:=by
   show Zk.to (Xu.to (UM ⟨X.F,X.G,Xr.get,842,cal⟩ [(171,a1),(123,a2),(49,a3),(179,a4)] σ) _ _) _=_
   rw[q]
  rw[this] at e2;exact Y3 e2
 |ok u σ1=>
  have e3:Xd (Xz 137 UM) WH ⟨X.F,X.G,Xr.get,842,cal⟩ [(171,a1),(123,a2),(49,a3),(179,a4)] σ=WH ⟨X.F,X.G,Xr.get,842,cal⟩ (XM [(171,a1),(123,a2),(49,a3),(179,a4)] 137 u) σ1:=by
   show Zk.to (Xu.to (UM ⟨X.F,X.G,Xr.get,842,cal⟩ [(171,a1),(123,a2),(49,a3),(179,a4)] σ) _ _) _=_
   rw[q]
  rw[e3] at e2
  refine Ic (k:=⟨X.F,X.G,Xr.get,842,cal⟩) OK Rx Ry hK HF HG hcal rfl rfl g R Rs (τ:=λx=>x) rfl (λT=>T) q Q λc o2 w env L Ru Rv h2 tk m1 OK1 X1 hL0 hp hs hkp hlv T2=>?_
  have ss:=X6 (C:=C.withCell c o2 w) (n:=n) (k:=⟨X.F,X.G,Xr.get,842,cal⟩) OK1 (JO hK) HF HG hcal.cell rfl rfl X1 Xff
  generalize hout:WH ⟨X.F,X.G,Xr.get,842,cal⟩ (XM [(171,a1),(123,a2),(49,a3),(179,a4)] 137 u) σ1=out at e2
  have back:∀{Rr Rt h'},XJ (·=L) Ru Rv h2 Rr Rt h'->XJ (λ_=>False) Ro Rq s.heap Rr Rt h':=λ{Rr Rt h'} G3=>by
   have hne:∀b o,s.heap.get? b=some o->b≠L:=λb o e=>by rintro rfl;rw[hL0] at e;exact Xx e
   refine ⟨hp.trans G3.pre,λb o e=>?_,λb o e hn _=>G3.keep b o (hkp b o e hn) ((hs b o e).trans hn) (hne b o e),λb o e=>?_⟩
   ·obtain ⟨o1,ho1⟩:=hlv b o e
    exact (G3.same b o1 ho1).trans (hs b o e)
   ·obtain ⟨o1,ho1⟩:=hlv b o e
    exact G3.live b o1 ho1
  refine ss (A.deeper env) g.deeper Ru Rv σ1 _ {s with heap:=h2,toks:=tk} m1 out T2 hout (by rintro rfl;exact Y3 e2) _ _ ?_
  induction out with
  |no=>exact Y3 e2
  |next l1 σ2=>
   replace h:=h.eq e2
   exact λh' t Rr Rt m' G T'=>h h' t Rr Rt _ (back G) T'.rp.uncell .none
  |ret y σ2=>
   replace h:=h.eq e2
   exact λh' t Rr Rt m' l' val G T' V=>h h' t Rr Rt val (back G) T'.rp.uncell V
theorem Rp.cut{σc:St}(R:Rp C Ro Rq σ h){js:List Nat}(hn:js.Nodup)(hl:σc.n=js.length)(hlive:∀j∈js,∃o,σ.h.get j=some o)
  {adc:List Rn}(hadc:adc=js.map λj=>(Ro[j]?).getD 0)
  (hobj:∀i o',σc.h.get i=some o'->∃j o,js[i]?=some j/\σ.h.get j=some o/\((∃l,o= .src l/\o'= .src l)∨OT C.ρ Ro C.ρ adc o o')):
  Rp C adc (Z3 adc 0) σc h/\(∀b,Rq b=none->Z3 adc 0 b=none)/\∀(i j:Nat),js[i]?=some j->adc[i]?=Ro[j]?:=by
 have at_:∀j∈js,Ro[j]?=some ((Ro[j]?).getD 0)/\Rq ((Ro[j]?).getD 0)=some j:=λj hj=>by
  obtain ⟨o,ho⟩:=hlive j hj
  refine YO (R.obj j o ho) λa f1 f2 _=>?_
  rw[f1];exact ⟨rfl,f2⟩
 have get:∀(i j:Nat),js[i]?=some j->adc[i]?=Ro[j]?:=λi j hij=>by
  rw[hadc,QE,hij]
  exact ((at_ j (QN hij)).1).symm
 have nd:adc.Nodup:=by
  refine YN Rq ?_
  have:adc.map Rq=js.map some:=by
   rw[hadc,List.map_map]
   exact List.map_congr_left λj hj=>(at_ j hj).2
  rw[this]
  exact List.Pairwise.map some (λ(x y:Nat) (hxy:x≠y) e=>hxy (QV e)) hn
 have non:∀b,Rq b=none->Z3 adc 0 b=none:=λb hb=>by
  induction q:Z3 adc 0 b with
  |none=>rfl
  |some z=>
   have hm:=ZX (l:=adc) (j:=0) (b:=b) (by rw[q];nofun)
   rw[hadc] at hm
   refine YB (Qb hm) λj hj zz1=>?_;subst zz1
   rw[(at_ j hj).2] at hb;exact snn hb
 refine ⟨⟨by rw[hadc,Qs,hl],λb o e=>non b (R.old b o e),R.keep,R.big,λi o' e=>?_⟩,non,get⟩
 refine UB (hobj i o' e) λj o h1 h2 h3=>?_
 refine YO (R.obj j o h2) λa f1 f2 f3=>?_
 have hi:adc[i]?=some a:=(get i j h1).trans f1
 refine ⟨a,hi,by rw[Ni nd hi,QM],?_⟩
 rcases h3 with ⟨l,rfl,rfl⟩ |h3
 ·exact f3
 ·refine JR.or (h3.go ?_)
  induction h3<;>exact f3
theorem At.cut{σc:St}(T:At C L Ro Rq σ l h m){js:List Nat}(hn:js.Nodup)(hl:σc.n=js.length)(hlive:∀j∈js,∃o,σ.h.get j=some o)
  (hobj:∀adc,(∀(i j:Nat),js[i]?=some j->adc[i]?=Ro[j]?)->∀i o',σc.h.get i=some o'->∃j o,js[i]?=some j/\σ.h.get j=some o/\((∃l,o= .src l/\o'= .src l)∨OT C.ρ Ro C.ρ adc o o'))
  (hloc:∀adc,(∀(i j:Nat),js[i]?=some j->adc[i]?=Ro[j]?)->∀n v',Xh l' n=some v'->∃v,Xh l n=some v/\VT C.ρ Ro C.ρ adc v v'):
  ∃adc Rt,At C L adc Rt σc l' h m:=by
 have get0:∀(i j:Nat),js[i]?=some j->(js.map λj=>(Ro[j]?).getD 0)[i]?=Ro[j]?:=λi j hij=>by
  obtain ⟨o,ho⟩:=hlive j (QN hij)
  refine YB (T.rp.obj j o ho) λa f1 _=>?_
  rw[QE,hij,f1]
  show some ((Ro[j]?).getD 0)=_
  rw[f1];rfl
 refine YF (T.rp.cut hn hl hlive rfl (hobj _ get0)) λRc non get=>?_
 refine ⟨_,_,Rc,T.fr,non _ T.ownL,λn v' e=>?_,λp hp=>?_⟩
 ·refine YB (hloc _ get0 n v' e) λv e1 hv=>?_
  refine UB (T.lr n v e1) λx y g1 g2 g3=>?_
  exact ⟨x,y,g1,g2,hv _ g3⟩
 ·refine YF (T.cel p hp) λc1 c2 c3=>?_
  exact ⟨non _ c1,c2,c3⟩
noncomputable abbrev JQ:=List (Nat×Int)
def Zi(ρ:Nat->Int)(g:JQ):Prop:=∀i c,Xh g i=some c->ρ i=c
def sbT(g:JQ)(t:List (Nat×Int)):LI:= @List.rec _ (λ_=>LI) ⟨0,[]⟩ (λp _ ih=> @Option.rec Int (λ_=>LI) ((⟨0,[p]⟩:LI).add ih) (λc=>(⟨p.2 * c,[]⟩:LI).add ih) (Xh g p.1)) t
def sb(g:JQ)(x:LI):LI:= @List.rec _ (λ_=>LI) x (λ_ _ _=>(Xn x.c).add (sbT g x.t)) x.t
theorem Xmj{g:JQ}(h:Zi ρ g):∀t,(sbT g t).val ρ=tv ρ t:=by
 intro ux
 induction ux with
 |nil=>
  exact rfl
 |cons ua r ih=>
  obtain ⟨i,a⟩:=ua
  have ih:=ih
  show LI.val ρ (@Option.rec Int (λ_=>LI) ((⟨0,[(i,a)]⟩:LI).add (sbT g r)) (λc=>(⟨a * c,[]⟩:LI).add (sbT g r)) (Xh g i))=a * ρ i + tv ρ r
  induction q:Xh g i with
  |none=>
   show LI.val ρ ((⟨0,[(i,a)]⟩:LI).add (sbT g r))=_
   rw[ZS,ih]
   show 0 + (a * ρ i + 0) + tv ρ r=_
   lia
  |some c=>
   show LI.val ρ ((⟨a * c,[]⟩:LI).add (sbT g r))=_
   rw[ZS,ih,h i c q]
   show a * c + 0 + tv ρ r=_
   lia
theorem XjS{g:JQ}(h:Zi ρ g)(x:LI):(sb g x).val ρ=x.val ρ:=by
 obtain ⟨c,t⟩:=x
 induction t with
 |nil=>rfl
 |cons p r=>
  show LI.val ρ ((Xn c).add (sbT g (p::r)))=c + tv ρ (p::r)
  rw[ZS,Xs,Xmj h]
def iOK(g:JQ)(a b:LI):Bool:=Wh (sb g a) (sb g b)
theorem XkP{g:JQ}(h:Zi ρ g){a b:LI}(e:iOK g a b=true):a.val ρ=b.val ρ:=by
 rw[←XjS h a,←XjS h b,Z0 e]
def vOK(g:JQ)(N:Nat)(v v':V):Bool:=match v,v' with
 | .none,.none=>true
 | .bool a,.bool b=>a == b
 | .int a,.int b=>iOK g a b
 | .str a,.str b=>Nat.beq a b
 | .bytes a,.bytes b=>eqB a b
 | .ref a,.ref b=>Nat.beq a b&&Nat.blt a N
 |_,_=>false
theorem Nr{l:List α}{a:α}(hi:i < N)(h:l[i]?=some a):(l.take N)[i]?=some a:=by
 rw[List.getElem?_take,if_pos hi];exact h
theorem BI{g:JQ}(h:Zi ρ g){v':V}(e:vOK g N v v'=true):VT ρ Ro ρ (Ro.take N) v v':=by
 induction v with
 |none=>induction v' with
  |none=>exact VT.none
  |_=>exact ff e
 |bool a=>induction v' with
  |bool b=>intro y r;refine r.boolE ?_;rw[eq_of_beq e];exact .bool _
  |_=>exact ff e
 |int a=>induction v' with
  |int b=>exact VT.int (XkP h e)
  |_=>exact ff e
 |str a=>induction v' with
  |str b=>intro y r;rw[←Qi e];cases r with |str _ x t q=>exact .str _ x t q
  |_=>exact ff e
 |bytes a=>induction v' with
  |bytes b=>intro y r;rw[←MH e];cases r with |bytes _ t q=>exact .bytes _ t q
  |_=>exact ff e
 |ref a=>induction v' with
  |ref b=>
   refine b2 e λe1 e2=>?_
   rw[←Qi e1]
   exact VT.ref λb hb=>Nr (Nat.blt_eq.mp e2) hb
  |_=>exact ff e
 |_=>exact ff e
def XhK(g:JQ)(N:Nat):List V->List V->Bool
 | [],[]=>true
 |a::x,b::y=>vOK g N a b&&XhK g N x y
 |_,_=>false
theorem XaL{g:JQ}(h:Zi ρ g):∀{x y:List V},XhK g N x y=true->DE ρ Ro ρ (Ro.take N) x y
 | [],[],_=> .nil
 |a::x,b::y,e=>by
  refine b2 (show (vOK g N a b&&XhK g N x y)=true from e) λe1 e2=>?_
  exact .cons (BI h e1) (XaL h e2)
 | [],_::_,e=>by injection e
 |_::_,[],e=>by injection e
def Xgx(g:JQ)(N:Nat):List (Nat×V)->List (Nat×V)->Bool
 | [],[]=>true
 |a::x,b::y=>Nat.beq a.1 b.1&&(vOK g N a.2 b.2&&Xgx g N x y)
 |_,_=>false
theorem Xae{g:JQ}(h:Zi ρ g):∀{x y:List (Nat×V)},Xgx g N x y=true->FTs ρ Ro ρ (Ro.take N) x y
 | [],[],_=> .nil
 |(i,a)::x,(j,b)::y,e=>by
  refine b3 (show (Nat.beq i j&&(vOK g N a b&&Xgx g N x y))=true from e) λe1 e2 e3=>?_
  have:=Qi e1
  subst this
  exact .cons (BI h e2) (Xae h e3)
 | [],_::_,e=>by injection e
 |_::_,[],e=>by injection e
noncomputable def eqE:List (Int×LI×Int)->List (Int×LI×Int)->Bool
 | [],[]=>true
 |(a,b,c)::x,(a',b',c')::y=>decide (a=a')&&(Wh b b'&&(decide (c=c')&&eqE x y))
 |_,_=>false
theorem Xda:∀{x y:List (Int×LI×Int)},eqE x y=true->x=y
 | [],[],_=>rfl
 |(a,b,c)::x,(a',b',c')::y,e=>by
  refine b4 (show (decide (a=a')&&(Wh b b'&&(decide (c=c')&&eqE x y)))=true from e) λe1 e2 e3 e4=>?_
  rw[Qt e1,Z0 e2,Qt e3,Xda e4]
 | [],_::_,e=>by injection e
 |_::_,[],e=>by injection e
def XrU:Option LI->Option LI->Bool
 |none,none=>true
 |some a,some b=>Wh a b
 |_,_=>false
def oOK(g:JQ)(N:Nat)(o o':O):Bool:=match o,o' with
 | .inst c d,.inst c' d'=>Nat.beq c c'&&(Nat.beq d d'&&Nat.blt d N)
 | .flds c l,.flds c' l'=>Nat.beq c c'&&Xgx g N l l'
 | .tup l,.tup l'=>XhK g N l l'
 | .wheel es r k,.wheel es' r' k'=>eqE es es'&&(XrU r r'&&decide (k=k'))
 |_,_=>false
def Xp8(N:Nat):Option Nat->Option Nat
 |some i=>if i < N then some i else none
 |none=>none
def We(N:Nat)(Rq:Rn->Option Nat):Rn->Option Nat:=λb=>Xp8 N (Rq b)
theorem Dj{b:Rn}(h:Rq b=some i)(hi:i < N):We N Rq b=some i:=by
 unfold We;rw[h];exact if_pos hi
theorem ZL{b:Rn}(h:Rq b=none):We N Rq b=none:=by
 unfold We;rw[h];rfl
theorem Xlb{g:JQ}(h:Zi ρ g){hp:Heap}(hi:i < N)(e:oOK g N o o'=true)(x:OR ρ Ro Rq hp i a o):OR ρ (Ro.take N) (We N Rq) hp i a o':=by
 induction o with
 |inst c d=>induction o' with
  |inst c' d'=>
   refine b3 e λe1 e2 e3=>?_
   rw[←Qi e1,←Qi e2]
   exact JR.or (OT.go (ρ:=ρ) (ρ':=ρ) (.inst λb hb=>Nr (Nat.blt_eq.mp e3) hb) x)
  |_=>exact ff e
 |flds c l=>induction o' with
  |flds c' l'=>
   refine b2 e λe1 e2=>?_
   rw[←Qi e1]
   exact JR.or (OT.go (.flds (Xae h e2)) x)
  |_=>exact ff e
 |tup l=>induction o' with
  |tup l'=>exact JR.or (OT.go (.tup (XaL h e)) x)
  |_=>exact ff e
 |wheel es r k=>induction o' with
  |wheel es' r' k'=>
   refine b3 e λe1 e2 e3=>?_
   have hr:r=r':=by
    cases r<;>cases r'<;>first |rfl |(rw[Z0 e2]) |cases e2
   rw[←Xda e1,←hr,←Qt e3]
   refine x36 x λρw adw rs l h1 h2 h3 h4 h5=>?_
   exact ⟨ρw,adw,rs,l,h1,h2,λb hb=>Dj (h3 b hb) hi,h4,h5⟩
  |_=>exact ff e
 |_=>exact ff e
section
variable {σ σc:St}
theorem Rp.trim(R:Rp C Ro Rq σ h)(hN:N<=σ.n)(hn:σc.n=N)
  (ho:∀i o',σc.h.get i=some o'->i < N/\∃o,σ.h.get i=some o/\∀a,OR C.ρ Ro Rq h i a o->OR C.ρ (Ro.take N) (We N Rq) h i a o'):Rp C (Ro.take N) (We N Rq) σc h:=by
 refine ⟨by rw[List.length_take,R.len,hn];exact Nat.min_eq_left hN,λb o e=>ZL (R.old b o e),R.keep,R.big,λi o' e=>?_⟩
 refine Iv (ho i o' e) λhi zz1=>?_;refine YB zz1 λo e1 e2=>?_
 refine YO (R.obj i o e1) λa f1 f2 f3=>?_
 exact ⟨a,Nr hi f1,Dj f2 hi,e2 a f3⟩
theorem At.trim(T:At C L Ro Rq σ l h m)(hN:N<=σ.n)(hn:σc.n=N)
  (ho:∀i o',σc.h.get i=some o'->i < N/\∃o,σ.h.get i=some o/\∀a,OR C.ρ Ro Rq h i a o->OR C.ρ (Ro.take N) (We N Rq) h i a o')
  (hl:∀n v',Xh lc n=some v'->∃v,Xh l n=some v/\VT C.ρ Ro C.ρ (Ro.take N) v v'):At C L (Ro.take N) (We N Rq) σc lc h m:=by
 refine ⟨T.rp.trim hN hn ho,T.fr,ZL T.ownL,λn v' e=>?_,λp hp=>?_⟩
 ·refine YB (hl n v' e) λv e1 e2=>?_
  refine UB (T.lr n v e1) λx y g1 g2 g3=>?_
  exact ⟨x,y,g1,g2,e2 _ g3⟩
 ·refine YF (T.cel p hp) λc1 c2 c3=>?_
  exact ⟨ZL c1,c2,c3⟩
end
def mkZ(z:List (Nat×O)):Tr:= @List.rec _ (λ_=>Tr) .nil (λp _ t=>t.set p.2 p.1) z
def Jb(N:Nat)(z:List (Nat×O))(src:List (Int×LI)):St:=⟨(mkZ z).set (.src src) 0,N⟩
theorem Xg1:∀{z:List (Nat×O)}{i:Nat}{o:O},(mkZ z).get i=some o->(i,o)∈z:=by
 intro ux
 induction ux with
 |nil=>
  intro i o e
  injection e
 |cons ua z ih=>
  obtain ⟨j,x⟩:=ua
  intro i o e
  rcases Tr.set_get (show ((mkZ z).set x j).get i=some o from e) with ⟨rfl,rfl⟩ |⟨_,e'⟩
  ·exact Ql
  ·exact Qm _ (ih e')
theorem Gy{z:List (Nat×O)}{src:List (Int×LI)}(e:(Jb N z src).h.get i=some o):(i=0/\o= .src src)∨(i,o)∈z:=by
 rcases Tr.set_get (show ((mkZ z).set (.src src) 0).get i=some o from e) with ⟨rfl,rfl⟩ |⟨_,e'⟩
 ·exact .inl ⟨rfl,rfl⟩
 ·exact .inr (Xg1 e')
def zOK(g:JQ)(N:Nat)(σ:St)(z:List (Nat×O)):Bool:= @List.rec _ (λ_=>Bool) true (λp _ ih=>oc (σ.h.get p.1) false λo=>bc (Nat.blt p.1 N) (bc (oOK g N o p.2) ih false) false) z
def lOK(g:JQ)(N:Nat)(l lc:YG):Bool:= @List.rec _ (λ_=>Bool) true (λp _ ih=>oc (Xh l p.1) false λv=>bc (vOK g N v p.2) ih false) lc
def XjY(o:Option O):Option (List (Int×LI)):=oc o none λo=>match o with
 | .src l=>some l
 |_=>none
theorem Xml{o:Option O}{z:List (Int×LI)}{g:Prop}(h:XjY o=some z)(f:o=some (.src z)->g):g:=
 Z8 h λx e h=>by
  subst e
  induction x<;>first |exact Xx h |exact f (by rw[QV h])
def Ue(g:JQ)(N:Nat)(z:List (Nat×O))(lc l:YG)(σ:St):Option (List (Int×LI)):=bc (Nat.ble N σ.n) (bc (Nat.blt 0 N) (bc (zOK g N σ z) (bc (lOK g N l lc) (XjY (σ.h.get 0)) none) none) none) none
def GT(g:JQ)(N:Nat)(z:List (Nat×O))(lc:YG)(x:Zk):Option (List (Int×LI)):= @Zk.rec (λ_=>Option (List (Int×LI))) none (λl σ=>Ue g N z lc l σ) (λ_ _=>none) x
def isT(v:V):Bool:=bK v false id
def Xgc(g:JQ)(N:Nat)(z:List (Nat×O))(x:Zk):Option (List (Int×LI)):= @Zk.rec (λ_=>Option (List (Int×LI))) none (λ_ _=>none) (λv σ=>bc (isT v) (Ue g N z [] [] σ) none) x
theorem XhO{g:JQ}:∀{z:List (Nat×O)},zOK g N σ z=true->∀i o',(i,o')∈z->i < N/\∃o,σ.h.get i=some o/\oOK g N o o'=true:=by
 intro ux
 induction ux with
 |cons ua z ih=>
  obtain ⟨j,x⟩:=ua
  intro e i o' hm
  refine YB (ZF (show oc (σ.h.get j) false (λo=>bc (Nat.blt j N) (bc (oOK g N o x) (zOK g N σ z) false) false)=true from e) nofun) λo e1 e2=>?_
  obtain ⟨e2,e3⟩:=YR e2 nofun
  obtain ⟨e3,e4⟩:=YR e3 nofun
  rcases Qe hm with q |hm
  ·cases q;exact ⟨Nat.blt_eq.mp e2,o,e1,e3⟩
  ·exact ih e4 i o' hm
 |nil=>
  intro v0 v1 v2 v3
  contradiction
theorem XgO{g:JQ}:∀{lc:YG},lOK g N l lc=true->∀i v',(i,v')∈lc->∃v,Xh l i=some v/\vOK g N v v'=true:=by
 intro ux
 induction ux with
 |cons ua lc ih=>
  obtain ⟨j,x⟩:=ua
  intro e i v' hm
  refine YB (ZF (show oc (Xh l j) false (λv=>bc (vOK g N v x) (lOK g N l lc) false)=true from e) nofun) λv e1 e2=>?_
  obtain ⟨e2,e3⟩:=YR e2 nofun
  rcases Qe hm with q |hm
  ·cases q;exact ⟨v,e1,e2⟩
  ·exact ih e3 i v' hm
 |nil=>
  intro v0 v1 v2 v3
  contradiction
set_option tactic.hygienic true in
theorem JU{g:JQ}(hg:Zi ρ g){z:List (Nat×O)}{src:List (Int×LI)}(e:Ue g N z lc l σ=some src):
  N<=σ.n/\(∀i o',(Jb N z src).h.get i=some o'->i < N/\∃o,σ.h.get i=some o/\∀a,OR ρ Ro Rq h i a o->OR ρ (Ro.take N) (We N Rq) h i a o')/\lOK g N l lc=true:=by
 obtain ⟨e1,e2⟩:=YR e nofun
 obtain ⟨e0,e2⟩:=YR e2 nofun
 obtain ⟨e2,e3⟩:=YR e2 nofun
 obtain ⟨e3,e4⟩:=YR e3 nofun
 refine ⟨Qv e1,λi o' q=>?_,e3⟩
 rcases Gy q with ⟨rfl,rfl⟩ |hm
 ·refine ⟨Nat.blt_eq.mp e0,?_⟩
  exact Xml e4 λhl'=>⟨_,hl',λa r=>r⟩
 ·refine Iv (XhO e2 i o' hm) λh1 zz2=>?_;refine YB zz2 λo h2 h3=>?_
  exact ⟨h1,o,h2,λa r=>Xlb hg h1 h3 r⟩
theorem B7{g:JQ}(hg:Zi C.ρ g){z:List (Nat×O)}{src:List (Int×LI)}(e:Ue g N z lc l σ=some src)
  (T:At C L Ro Rq σ l h m):At C L (Ro.take N) (We N Rq) (Jb N z src) lc h m:=by
 refine YF (JU hg e (Ro:=Ro) (Rq:=Rq) (h:=h)) λh1 h2 h3=>?_
 refine T.trim h1 rfl h2 λn v' q=>?_
 refine YB (XgO h3 n v' (Zs q)) λv q1 q2=>?_
 exact ⟨v,q1,BI hg q2⟩
theorem B6{g:JQ}{z:List (Nat×O)}{x:Zk}{src:List (Int×LI)}(e:GT g N z lc x=some src):∃l σ,x= .next l σ/\Ue g N z lc l σ=some src:=by
 induction x with
 |next l σ=>exact ⟨l,σ,rfl,e⟩
 |no=>injection e
 |ret _ _=>injection e
theorem Xgd{g:JQ}{z:List (Nat×O)}{x:Zk}{src:List (Int×LI)}(e:Xgc g N z x=some src):∃σ,x= .ret (.bool true) σ/\Ue g N z [] [] σ=some src:=by
 induction x with
 |ret v σ=>
  obtain ⟨e1,e2⟩:=YR (show bc (isT v) (Ue g N z [] [] σ) none=some src from e) nofun
  exact bKE e1 Ri λb e3 e1=>⟨σ,by rw[e3,show b=true from e1],e2⟩
 |no=>injection e
 |next _ _=>injection e
structure JK(own0:Rn->Option Nat)(h0:Heap)(Rq:Rn->Option Nat)(h:Heap):Prop where
 keep:∀b o,h0.get? b=some o->own0 b=none->Rq b=none/\h.get? b=some o
 live:∀b o,h0.get? b=some o->∃o',h.get? b=some o'
theorem JK.trim(K:JK own0 h0 Rq h):JK own0 h0 (We N Rq) h:=
 ⟨λb o e n=>⟨ZL (K.keep b o e n).1,(K.keep b o e n).2⟩,K.live⟩
theorem JK.gone(K:JK own0 h0 Rq h)(hL:h0.get? L=none)(G:XJ (·=L) Ro Rq h Rr Rt h'):JK own0 h0 Rt h':=by
 refine ⟨λb o e n=>?_,λb o e=>?_⟩
 ·obtain ⟨k1,k2⟩:=K.keep b o e n
  exact ⟨(G.same b o k2).trans k1,G.keep b o k2 k1 (by rintro rfl;rw[hL] at e;cases e)⟩
 ·obtain ⟨o',e'⟩:=K.live b o e
  exact G.live b o' e'
theorem JK.heap(K:JK own0 h0 Rq h)(hI:h0.get? I=none)(hk:∀b o,b≠I->h.get? b=some o->h'.get? b=some o):JK own0 h0 Rq h':=by
 have hne:∀{b o},h0.get? b=some o->b≠I:=by rintro b o e rfl;rw[hI] at e;cases e
 exact ⟨λb o e n=>⟨(K.keep b o e n).1,hk b o (hne e) (K.keep b o e n).2⟩,λb o e=>by
  obtain ⟨o',e'⟩:=K.live b o e
  exact ⟨o',hk b o' (hne e) e'⟩⟩
theorem Og{a b:List α}(h:a <+:b)(hN:a.length<=N):a <+:b.take N:=by
 exact List.prefix_take_iff.mpr ⟨h,hN⟩
theorem Xcy:mroOf (.type "bytearray")=pure [.type "bytearray",.type "object"]:=by rw[mroOf_type];kernel_rfl
theorem OC:typeLookup (.type "bytearray") "__new__"=pure (some (.builtin "bytearray.__new__")):=by rw[typeLookup_type,QL];kernel_rfl
theorem WU:Slot "bytearray" "__init__" "bytearray.__init__":=
 .of (owner:="bytearray") (n:="__init__") (by rw[typeLookup_type,QL];kernel_rfl) (by decide +kernel) (by decide +kernel) (by decide +kernel)
  (by first |exact .inl (by decide +kernel) |exact .inr (by decide +kernel)) (by rw[isSubtype_type];kernel_rfl)
theorem XaY:TypeCalled "bytearray" "bytearray.__new__" "bytearray.__init__":=
 ⟨by decide +kernel,by decide +kernel,⟨_,_,Xcy⟩,madeBy_type Xcy OC (by decide +kernel),by decide +kernel,by rw[isSubtype_type];kernel_rfl,WU⟩
theorem GJ:checkTypeCall "bytearray" ⟨[],[]⟩=pure ():=by kernel_rfl
theorem Mr:checkBuiltinCall "bytearray.__new__" ⟨[.type "bytearray"],[]⟩=pure ():=by kernel_rfl
theorem DJ:entryFor table "bytearray.__new__"=some Builtin.«list.__new__»:=entryFor_alias (id':="list.__new__") (by kernel_rfl) (by kernel_rfl) (by kernel_rfl) (by kernel_rfl)
theorem OB:entryFor table "bytearray.__init__"=some Builtin.«bytearray.__init__»:=by first |exact entryFor_of_tree (by kernel_rfl) |exact entryFor_of_fast (by kernel_rfl)
theorem WT:plainId "bytearray.__new__"=true:=by decide +kernel
theorem DI(a:Rm):argsOk "bytearray.__init__" ⟨[a],[]⟩:=by unfold argsOk;kernel_rfl
set_option maxRecDepth 1000000 in
set_option maxHeartbeats 4000000 in
theorem Xcz:("bytearray.__new__".splitOn ".__new__").headD ""="bytearray":=by simp +decide [String.splitOn,String.splitOnAux]
theorem XcA:isSubtype (.type "bytearray") (.type "bytearray")=pure true:=by rw[isSubtype_type];kernel_rfl
theorem XfL:Builtin.Bytes.bindOptional "bytearray.__init__" "bytearray" ["source","encoding","errors"] [] []=pure [none,none,none]:=by kernel_rfl
theorem Ms:typeLookup (.type "bytearray") "__release_buffer__"=pure (some (.builtin "bytearray.__release_buffer__")):=by rw[typeLookup_type,QL];kernel_rfl
section
variable {prog:Program}{w:World}
theorem GI{Q₁:Rm->Rk->Prop}(h:Q₁ (.ref s.heap.objs.size) {s with heap:=s.heap.push {cls:= .type "bytearray",data:= .bytearray #[] 0}}):
  codeAny (model prog w) A (.call (.builtin "bytearray.__new__") ⟨[.type "bytearray"],[]⟩) (wants Q₁ E) s:=by
 refine codeAny_of_tree ?_
 show wpAny _ A.in1 (do checkBuiltinCall "bytearray.__new__" ⟨[.type "bytearray"],[]⟩;again (.builtin "bytearray.__new__" ⟨[.type "bytearray"],[]⟩)) _ _ s
 refine Qg (QF Mr (Qh ⟨plainId_quiet WT _,codeAny_builtin_stack DJ rfl λp st=>?_⟩))
 rw[Around.under_plainId WT _]
 have hsub:=XcA
 have hown:=Xcz
 obtain ⟨hp,g,d,tk,os⟩:=s
 simp only [hown]
 wp_walk
 exact h
end
def ZZ:Code->Bool
 | .builtin id _=> !(Builtin.Bytes.decodersThatHold.contains id)
 |_=>true
def XmF(Γ:PySem.Ctx):Prop:=∀x∈Γ.below,ZZ x.1=true
def Za(M:Model)(A:Around)(t:Sem α)(Q:α->Rk->Prop)(E:Rm->Rk->Prop)(s:Rk):Prop:=
 ∀(Γ:PySem.Ctx) p,Γ.In A->ZZ Γ.code=true->XmF Γ->Sem.wp M Γ t (λa _ s'=>Q a s') (λe _ s'=>E e s') p s
def Zq(M:Model)(A:Around)(c:Code)(R:Result->Rk->Prop)(s:Rk):Prop:=
 ∀(Γ:PySem.Ctx) p,Γ.code=c->Γ.Below A->XmF Γ->wpCode M Γ R p s
section
variable {M:Model}
theorem Yr{t:Sem α}{Q:α->Rk->Prop}(h:wpAny M A t Q E s):Za M A t Q E s:=λΓ p hΓ _ _=>h Γ p hΓ
theorem Jk{t:Sem α}{Q Q':α->Rk->Prop}{E':Rm->Rk->Prop}(h:Za M A t Q E s)(hQ:∀a s,Q a s->Q' a s)(hE:∀e s,E e s->E' e s):Za M A t Q' E' s:=
 λΓ p hΓ h1 h2=>Sem.wp_mono M Γ t (λa _ s=>hQ a s) (λe _ s=>hE e s) p s (h Γ p hΓ h1 h2)
theorem Zf{m:Sem α}{f:α->Sem β}{Q:β->Rk->Prop}(h:Za M A m (λa s'=>Za M A (f a) Q E s') E s):Za M A (m>>=f) Q E s:=λΓ p hΓ h1 h2=>by
 rw[Sem.wp_bind']
 exact Sem.wp_mono M Γ m (λa p' s' h'=>h' Γ p' hΓ h1 h2) (λ_ _ _ h'=>h') p s (h Γ p hΓ h1 h2)
theorem Jl{a:α}{Q:α->Rk->Prop}(h:Q a s):Za M A (pure a) Q E s:=λ_ _ _ _ _=>h
theorem O7{m:Sem α}{Q:α->Rk->Prop}(h:Za M A m Q E s):Za M A (holding vs m) Q E s:=
 λΓ p hΓ h1 h2=>by rw[Sem.wp_holding];exact h Γ p hΓ h1 h2
theorem YP{c:Code}(hcl:ZZ c=true)
  (h:Za M (A.under c) (M.den c) (λfin s'=>match fin with | .done f=>R (.ok f) s' | .again c'=>c'.quiet=true/\Zq M A c' R s') (λe s'=>R (.error e) s') s):Zq M A c R s:=λΓ p hc hΓ hB=>by
 rw[wpCode_iff_wp,hc]
 refine Sem.wp_mono M Γ _ (λfin p' s' h'=>?_) (λ_ _ _ h'=>h') p s (h Γ p (hc▸hΓ.in) (by rw[hc];exact hcl) hB)
 induction fin with
 |done f=>exact h'
 |again c'=>exact ⟨h'.1,h'.2 (Γ.goto c') p' rfl (hΓ.goto c') hB⟩
theorem MV{c:Code}(hc:Zq M A c (λr s'=>match r with | .ok (.ret v)=>Q v s' | .ok _=>False | .error e=>E e s') s):Za M A (runValue c) Q E s:=λΓ p hΓ h1 h2=>by
 rw[Sem.wp_runValue]
 refine hc _ p rfl (hΓ.enter c none p (by intro x;cases x)) λx hx=>?_
 rcases Qe (show x∈(Γ.code,p)::Γ.below from hx) with rfl |hx
 ·exact h1
 ·exact h2 x hx
theorem DZ{f:Rm}{pos:List Rm}{kw:List (Str×Rm)}(hc:Zq M A (.call f ⟨pos,kw⟩) (λr s'=>match r with | .ok (.ret v)=>Q v s' | .ok _=>False | .error e=>E e s') s):
  Za M A (call f pos kw) Q E s:=MV hc
theorem NK{f:Code×Pos->Bool}{Q:Bool->Rk->Prop}(hg:A.guards=some [])(hf:∀c p,c.isGuard=false->ZZ c=true->f (c,p)=false)(h:Q false s):Za M A (do return (←stack).any f) Q E s:=λΓ p hΓ h1 h2=>by
 show Q (((Γ.code,p)::Γ.below).any f) s
 have hgs:guardsOf ((Γ.code,p)::Γ.below)=[]:=by rw[guardsOf_cons];exact hΓ.2.2.2.1 _ hg
 have:((Γ.code,p)::Γ.below).any f=false:=by
  rw[List.any_eq_false]
  intro x hx
  have hcl:ZZ x.1=true:=by
   rcases Qe hx with rfl |hx
   ·exact h1
   ·exact h2 x hx
  have hng:x.1.isGuard=false:=by
   induction q:x.1.isGuard with
   |false=>rfl
   |true=>
    have:x.1∈guardsOf ((Γ.code,p)::Γ.below):=by
     unfold guardsOf
     exact List.mem_filter.mpr ⟨Qc ⟨x,hx,rfl⟩,q⟩
    rw[hgs] at this;cases this
  rw[hf x.1 x.2 hng hcl];decide
 rw[this];exact h
end
noncomputable def Xgp(self:Rm):Code×Pos->Bool:=λ
  |(.builtin "bytearray.__contains__" ⟨v::_,_⟩,_) |(.builtin "bytearray.__mod__" ⟨v::_,_⟩,_)
  |(.builtin "bytearray.__rmod__" ⟨_::v::_,_⟩,_) |(.builtin "_struct.pack_into.held" ⟨v::_,_⟩,_)=>Builtin.Bytes.sameRef v self
  |(.builtin "bytearray.find.held" ⟨_::_::held,_⟩,_)=>held.any (Builtin.Bytes.sameRef self)
  |(.builtin id ⟨v::_,_⟩,_)=>Builtin.Bytes.sameRef v self&&Builtin.Bytes.decodersThatHold.contains id
  |_=>false
theorem Xgq(self:Rm):Builtin.Bytes.exported self=(do return (←stack).any (Xgp self)):=rfl
theorem Xbq:(guardIds.contains "bytearray.__contains__"&&(guardIds.contains "bytearray.__mod__"&&(guardIds.contains "bytearray.__rmod__"&&(guardIds.contains "_struct.pack_into.held"&&guardIds.contains "bytearray.find.held"))))=true:=by decide +kernel
theorem W2{c:Prop}{i:Decidable c}{A:c->Bool}{B:¬c->Bool}(n:¬c)(h:∀x,B x=false):dite c A B=false:=(dif_neg n).trans (h n)
theorem Xgr(self:Rm)(c:Code)(p:Pos)(h:c.isGuard=false)(hc:ZZ c=true):Xgp self (c,p)=false:=by
 refine b5 Xbq λk1 k2 k3 k4 k5=>?_
 have g:∀id as,guardIds.contains id=true->(Code.builtin id as).isGuard=true:=λid as hg=>hg
 induction c with
 |builtin id as=>
  have n:∀l,guardIds.contains l=true->¬id=l:=λl hl e=>by rw[e,g l as hl] at h;exact tf h
  delta Xgp Xgp.match_1
  refine W2 (n _ k1) λ_=>W2 (n _ k2) λ_=>W2 (n _ k3) λ_=>W2 (n _ k4) λ_=>W2 (n _ k5) λ_=>?_
  have hd:Builtin.Bytes.decodersThatHold.contains id=false:=by
   have hc':(!(Builtin.Bytes.decodersThatHold.contains id))=true:=hc
   induction q:Builtin.Bytes.decodersThatHold.contains id with
   |false=>rfl
   |true=>rw[q] at hc';exact ff hc'
  obtain ⟨as,kw⟩:=as
  induction as with
  |nil=>rfl
  |cons v as=>
   show (Builtin.Bytes.sameRef v self&&Builtin.Bytes.decodersThatHold.contains id)=false
   rw[hd,Bool.and_false]
 |_=>rfl
section
variable {M:Model}
theorem MU{self:Rm}{Q:Bool->Rk->Prop}(hg:A.guards=some [])(h:Q false s):Za M A (Builtin.Bytes.exported self) Q E s:=by
 rw[Xgq]
 exact NK hg (Xgr self) h
end
theorem XfO:(!"bytearray.__release_buffer__".endsWith ("."++"__release_buffer__"))=false:=by decide +kernel
theorem XfN:"bytearray.__release_buffer__".dropRight ("__release_buffer__".length + 1)="bytearray":=by decide +kernel
section
variable {prog:Program}{w:World}
theorem Xkf{b:Array UInt8}{Q:Bool->Rk->Prop}(ho:s.heap.get? a=some {cls:= .type "bytearray",data:= .bytearray b 0})(h:Q false s):wpAny (model prog w) A (Builtin.Bytes.ownRelease (.ref a)) Q E s:=by
 have hT:s.TypeIs (.ref a) "bytearray":=JH ho
 unfold Builtin.Bytes.ownRelease
 refine Qg ?_
 have hr:=Ms
 unfold Builtin.Bytes.slotIsOwn
 wp_walk
 rw[XfO,XfN,if_neg (by decide)]
 have hsub:=XcA
 first
 |exact wpAny_isInstance hT hsub (Qh h)
 |(wp_walk;exact h)
end
section
variable {prog:Program}{w:World}
theorem Xjm{M:Model}{c:Prop}[Decidable c] {x y:Sem α}{Q:α->Rk->Prop}(h:¬c)(hy:Za M A y Q E s):Za M A (if c then x else y) Q E s:=by
 rw[if_neg h];exact hy
theorem XfP{Q:Fin->Rk->Prop}(hg:A.guards=some [])(ho:s.heap.get? a=some {cls:= .type "bytearray",data:= .bytearray #[] 0})(h:∀h',h'.get? a=some {cls:= .type "bytearray",data:= .bytearray #[] 0}->(∀b,b≠a->h'.get? b=s.heap.get? b)->Q (.done (.ret .none)) {s with heap:=h'}):
  Za (model prog w) A (Builtin.«bytearray.__init__» ⟨[.ref a],[]⟩) Q E s:=by
 unfold Builtin.«bytearray.__init__»
 refine Zf (Yr (Xkf ho ?_))
 refine Xjm Ri ?_
 refine Zf (Yr (QF XfL ?_))
 dsimp only
 refine Zf (Yr (QF (a:=()) rfl ?_))
 refine Zf (Yr (QF (a:=()) rfl ?_))
 refine Zf (Zf (MU hg ?_))
 refine Yr ?_
 show wpAny _ _ (Builtin.Bytes.exportsOf (.ref a)>>=_) _ _ _
 refine Qg ?_
 unfold Builtin.Bytes.exportsOf
 refine Qg (wpAny_load ho (Qh (Qh ?_)))
 refine Xjm (by decide) ?_
 refine Zf (Yr ?_)
 show wpAny _ _ (updateBytearray a λ_=>#[]) _ _ _
 unfold updateBytearray
 refine Qg (wpAny_load ho (Qg (wpAny_update ho ?_)))
 have h1:(s.heap.update a (Obj.mapBytearray λ_=>#[])).get? a=some {cls:= .type "bytearray",data:= .bytearray #[] 0}:=by
  exact Heap.get?_update_self _ ho rfl
 unfold lookBehind
 refine Qg (wpAny_loadPart h1 ?_)
 refine QF (a:=()) rfl ?_
 refine Zf (Yr (QF (a:=()) rfl ?_))
 exact Jl (h _ h1 λb hb=>Heap.get?_update_other _ _ (Ne.symm hb))
end
section
variable {M:Model}
theorem Xbp{m:Sem α}{k:Rm->Sem Unit}{Q:α->Rk->Prop}
  (h:Za M A m Q (λe s'=>Za M A (k e) (λ_ s''=>E e s'') E s') s):Za M A (m.onRaise k) Q E s:=λΓ p hΓ h1 h2=>by
 rw[Sem.wp_onRaise]
 exact Sem.wp_mono M Γ m (λ_ _ _ h'=>h') (λe p' s' h'=>h' Γ p' hΓ h1 h2) p s (h Γ p hΓ h1 h2)
theorem IV{c:Code}{R':Result->Rk->Prop}(h:Zq M A c R s)(hR:∀r s,R r s->R' r s):Zq M A c R' s:=
 λΓ p hc hΓ hB=>wpCode_mono hR (h Γ p hc hΓ hB)
theorem ZV{m:Sem α}{f:α->Sem β}{Q:β->Rk->Prop}(h:wpAny M A m (λa s'=>Za M A (f a) Q E s') E s):Za M A (m>>=f) Q E s:=Zf (Yr h)
theorem W5{m:Sem α}{f:α->Sem β}{a:α}{Q:β->Rk->Prop}(L:Looks M h0 m a)(k:∀b o,h0.get? b=some o->s.heap.get? b=some o)(h:Za M A (f a) Q E s):Za M A (m>>=f) Q E s:=
 ZV (L A _ E s k h)
end
section
variable {prog:Program}{w:World}
theorem JL{id:String}{args:Args}{b:Builtin}(hcl:ZZ (.builtin id args)=true)(hb:entryFor table id=some b)
  (h:Za (model prog w) (A.under (.builtin id args)) (b args)
   (λfin s'=>match fin with | .done f=>R (.ok f) s' | .again c'=>c'.quiet=true/\Zq (model prog w) A c' R s') (λe s'=>R (.error e) s') s):
  Zq (model prog w) A (.builtin id args) R s:=by
 refine YP hcl ?_
 show Za _ _ (match entryFor table id with |some b=>b args |none=>unsupported ((withoutEnding? id "#data").getD id)) _ _ s
 rw[hb];exact h
theorem N3{C obj f:Rm}{rest:List Rm}{g:Rm}
  (hi:Looks (model prog w) s.heap (isInstance obj C) true)(hs:Looks (model prog w) s.heap (specialOf obj "__init__") (some f))(hb:Looks (model prog w) s.heap (bindSpecial f obj) (g,first))
  (h:Zq (model prog w) A (.call g ⟨first++rest,[]⟩) (wants (λr s₂=>r= .none/\Q obj s₂) E) s):
  Za (model prog w) A (do
   if !(←isInstance obj C) then rule "type.call.new-gave-other-type";return ←ret obj
   match ←holding [obj] (callSpecial? obj "__init__" rest []) with
   |none=>ret obj
   |some r=>
    if r != .none then
     rule "type.call.init-returned-value"
     raiseErrorMade "TypeError" s!"__init__() should return None, not '{← PySem.typeNameOf r}'"
    ret obj) (λfin s'=>∃v,fin= .done (.ret v)/\Q v s') E s:=by
 have k:∀b o,s.heap.get? b=some o->s.heap.get? b=some o:=λ_ _ e=>e
 refine W5 hi k ?_
 simp only [Bool.not_true,Bool.false_eq_true,if_false]
 unfold callSpecial?
 refine Zf (O7 (W5 hs k ?_))
 dsimp only
 refine O7 (W5 hb k (Zf (DZ (IV h λr s' z=>?_))))
 rcases r with e |(v |_ |_ |_)<;>first |exact z |exact z.elim |skip
 obtain ⟨rfl,z⟩:=z
 exact Jl (Jl ⟨_,rfl,z⟩)
theorem Kj{T:String}{newId initId:String}{Q₁:Rm->Rk->Prop}(ft:TypeCalled T newId initId)(hct:checkTypeCall T ⟨[],[]⟩=pure ())
  (hnew:codeAny (model prog w) A (.call (.builtin newId) ⟨[.type T],[]⟩) (wants Q₁ (λ_ _=>False)) s)
  (hnext:∀obj s₁,Q₁ obj s₁->Looks (model prog w) s₁.heap (typeOf obj) (.type T)/\Zq (model prog w) A (.call (.builtin initId) ⟨[obj],[]⟩) (wants (λr s₂=>r= .none/\Q obj s₂) E) s₁):
  Za (model prog w) A (Builtin.«type.__call__» ⟨[.type T],[]⟩) (λfin s'=>∃v,fin= .done (.ret v)/\Q v s') E s:=by
 refine x21 ft.mro λc tl hmro=>?_
 unfold Builtin.«type.__call__»
 dsimp only
 rw[if_neg (by rw[ft.notType];decide)]
 rw[if_neg (by rw[ft.canCreate];decide)]
 refine ZV (QF hct ?_)
 refine ZV (QF hmro ?_)
 rw[if_neg (by rw[List.isEmpty_cons];decide)]
 refine ZV (QF ft.made ?_)
 dsimp only
 refine ZV (QF (a:=Value.builtin newId) rfl ?_)
 refine ZV (QB (wpAny_call (codeAny_mono hnew λr s₁ hr=>?_)))
 induction r with
 |error e=>exact hr.elim
 |ok fl=>
  induction fl with
  |ret obj=>
   obtain ⟨ty,hinit⟩:=hnext _ _ hr
   refine N3 (f:= .builtin initId) (g:= .builtin initId) (first:=[obj]) (ty.andThen (Looks.of_pure ft.sub)) ?_ (Looks.of_pure (ft.init.bind obj)) hinit
   unfold specialOf
   exact ty.andThen (Looks.of_pure ft.init.lookup)
  |_=>exact hr.elim
end
theorem GV(args:Args):ZZ (.builtin "type.__call__" args)=true:=by
 show (!(Builtin.Bytes.decodersThatHold.contains "type.__call__"))=true
 decide +kernel
theorem XcX(args:Args):ZZ (.builtin "bytearray.__init__" args)=true:=by
 show (!(Builtin.Bytes.decodersThatHold.contains "bytearray.__init__"))=true
 decide +kernel
theorem Jh(f:Rm)(args:Args):ZZ (.call f args)=true:=rfl
section
variable {prog:Program}{w:World}
theorem XeN:("bytearray.__init__":String).startsWith "lifetime."=false:=by decide +kernel
theorem Xez:plainId "bytearray.__init__"=true:=by decide +kernel
theorem Xcx(hg:A.guards=some [])(ho:s.heap.get? a=some {cls:= .type "bytearray",data:= .bytearray #[] 0})(h:∀h',h'.get? a=some {cls:= .type "bytearray",data:= .bytearray #[] 0}->(∀b,b≠a->h'.get? b=s.heap.get? b)->R (.ok (.ret .none)) {s with heap:=h'}):
  Zq (model prog w) A (.call (.builtin "bytearray.__init__") ⟨[.ref a],[]⟩) R s:=by
 refine YP (Jh _ _) ?_
 show Za _ _ (do checkBuiltinCall "bytearray.__init__" ⟨[.ref a],[]⟩;again (.builtin "bytearray.__init__" ⟨[.ref a],[]⟩)) _ _ _
 refine ZV (WU.check _ _ _ _ _ _ _ _ (JH ho) (DI _) ?_)
 refine Jl (a:=Fin.again (.builtin "bytearray.__init__" ⟨[.ref a],[]⟩)) ⟨Code.quiet_builtin _ XeN,?_⟩
 refine JL (id:="bytearray.__init__") (XcX _) OB ?_
 refine XfP ?_ ho λh' e1 e2=>h h' e1 e2
 rw[Around.under_plainId Xez _];exact hg
theorem KO:("type.__call__":String).startsWith "lifetime."=false:=by decide +kernel
theorem XfM(hg:A.guards=some [])
  (h:∀h',h'.get? s.heap.objs.size=some {cls:= .type "bytearray",data:= .bytearray #[] 0}->(∀b o,s.heap.get? b=some o->h'.get? b=some o)->Q (.ref s.heap.objs.size) {s with heap:=h'}):
  Za (model prog w) A (call (.type "bytearray") []) Q E s:=by
 refine DZ (YP (Jh _ _) ?_)
 show Za _ _ (callAny (.type "bytearray") _) _ _ _
 refine Jl (a:=Fin.again (.builtin "type.__call__" ⟨[.type "bytearray"],[]⟩)) ⟨Code.quiet_builtin _ KO,?_⟩
 refine JL (id:="type.__call__") (GV _) F.entry_type_call ?_
 rw[Around.under_plain (weight_type_call_type "bytearray" [] []) rfl]
 have hnew:=GI (prog:=prog) (w:=w) (A:=A.in1) (E:=λ_ _=>False) (s:=s) (Q₁:=λv s₁=>v= .ref s.heap.objs.size/\s₁={s with heap:=s.heap.push {cls:= .type "bytearray",data:= .bytearray #[] 0}}) ⟨rfl,rfl⟩
 have hnext:∀obj s₁,(obj= .ref s.heap.objs.size/\s₁={s with heap:=s.heap.push {cls:= .type "bytearray",data:= .bytearray #[] 0}})->Looks (model prog w) s₁.heap (typeOf obj) (.type "bytearray")/\Zq (model prog w) A.in1 (.call (.builtin "bytearray.__init__") ⟨[obj],[]⟩) (wants (λr s₂=>r= .none/\Q obj s₂) E) s₁:=by
  rintro obj s₁ ⟨rfl,rfl⟩
  have ho:(s.heap.push {cls:= .type "bytearray",data:= .bytearray #[] 0}).get? s.heap.objs.size=some {cls:= .type "bytearray",data:= .bytearray #[] 0}:=QA _ rfl
  have ty:Looks (model prog w) (s.heap.push {cls:= .type "bytearray",data:= .bytearray #[] 0}) (typeOf (.ref s.heap.objs.size)) (.type "bytearray"):=(Looks.ld (part:=none) ho).andThen .now
  refine ⟨ty,Xcx hg ho λh' e1 e2=>⟨rfl,h h' e1 λb o e=>?_⟩⟩
  exact (e2 b (Qz (Qu e))).trans (Qj _ e)
 have st:=Kj (prog:=prog) (w:=w) (A:=A.in1) (s:=s) (Q:=Q) (E:=E) (T:="bytearray") (newId:="bytearray.__new__") (initId:="bytearray.__init__") (Q₁:=λv s₁=>v= .ref s.heap.objs.size/\s₁={s with heap:=s.heap.push {cls:= .type "bytearray",data:= .bytearray #[] 0}}) XaY GJ hnew hnext
 refine Jk st (λfin s' z=>?_) λ_ _ z=>z
 obtain ⟨v,rfl,z⟩:=z
 exact z
end
section
variable {prog:Program}{w:World}{C:Rn}{g:Array GenState}{d:Drawn}{t:Nat}{os:OsState}
theorem Xb3(args:Args):(Code.call (.builtin "type.__call__") args).quiet=true:=rfl
theorem Xk6{rest:List Rm}{f:Rn}(Y:Makes (model prog w) h C)(hi:Looks (model prog w) h (typeLookup (.ref C) "__init__") (some (.ref f)))
  (hb:∀self,Looks (model prog w) h (bindSpecial (.ref f) self) (.ref f,[self]))
  (hq:Zq (model prog w) (A.under (.builtin "type.__call__" ⟨.ref C::rest,[]⟩)) (.call (.ref f) ⟨.ref (h.objs.size + 1)::rest,[]⟩) (InitBack (h.objs.size + 1) R) ⟨(h.push emptyDict).push (instObj C h.objs.size),g,d,t,os⟩):
  Zq (model prog w) A (.call (.ref C) ⟨rest,[]⟩) R ⟨h,g,d,t,os⟩:=by
 have Y':=Y
 obtain ⟨⟨oc,od,cd,sl,hC,e1,e2,e4⟩,made,base,self,top,call,typ⟩:=Y
 refine YP (Jh _ _) ?_
 have hcall:wpAny (model prog w) (A.under (.call (.ref C) ⟨rest,[]⟩)) (callAny (.ref C) ⟨rest,[]⟩) (λfin s'=>fin= .again (.call (.builtin "type.__call__") ⟨.ref C::rest,[]⟩)/\s'=⟨h,g,d,t,os⟩) (λ_ _=>False) ⟨h,g,d,t,os⟩:=by
  refine nd_load hC ?_
  show wpAny _ _ (callAny.viaDunder (.ref C) _) _ _ _
  unfold callAny.viaDunder
  refine Qg (call.at ?_)
  dsimp only
  rw[tc_bind]
  refine Qg (Qh (Qg (Qh ?_)))
  exact Qh (a:=Fin.again (.call (.builtin "type.__call__") ⟨.ref C::rest,[]⟩)) ⟨rfl,rfl⟩
 refine Jk (Yr hcall) (λfin s' z=>?_) λ_ _ z=>z.elim
 obtain ⟨rfl,rfl⟩:=z
 refine ⟨Xb3 _,YP (Jh _ _) ?_⟩
 show Za _ _ (do checkBuiltinCall "type.__call__" ⟨.ref C::rest,[]⟩;again (.builtin "type.__call__" ⟨.ref C::rest,[]⟩)) _ _ _
 refine ZV (check_slot tc_kind tc_split typ (tc_args _ _ _) ?_)
 refine Jl (a:=Fin.again (.builtin "type.__call__" ⟨.ref C::rest,[]⟩)) ⟨Code.quiet_builtin _ KO,?_⟩
 refine JL (id:="type.__call__") (GV _) entry_typeCall ?_
 unfold Builtin.«type.__call__»
 dsimp only
 have hm:Looks (model prog w) h (mroOf (.ref C)) cd.mro:=((Looks.ld (part:=none) hC).andThen .now).andThen .now
 have k0:∀b o,h.get? b=some o->h.get? b=some o:=λ_ _ e=>e
 rw[if_neg (by intro q;cases q)]
 refine W5 hm k0 ?_
 rw[if_neg (by rw[e4];decide)]
 refine W5 made k0 ?_
 dsimp only
 refine ZV (QF (a:=Value.builtin "object.__new__") rfl ?_)
 refine ZV (QB (wpAny_call (new_K Y' hi (.inl rfl) ?_)))
 have k:∀b o,h.get? b=some o->((h.push emptyDict).push (instObj C h.objs.size)).get? b=some o:=λb o e=>Qj _ (Qj _ e)
 have hx:((h.push emptyDict).push (instObj C h.objs.size)).get? (h.objs.size + 1)=some (instObj C h.objs.size):=by heap_get
 have t1:Looks (model prog w) ((h.push emptyDict).push (instObj C h.objs.size)) (typeOf (.ref (h.objs.size + 1))) (.ref C):=(Looks.ld (part:=none) hx).andThen .now
 have ii:Looks (model prog w) ((h.push emptyDict).push (instObj C h.objs.size)) (isInstance (.ref (h.objs.size + 1)) (.ref C)) true:=t1.andThen (self.keeps k)
 have ss:Looks (model prog w) ((h.push emptyDict).push (instObj C h.objs.size)) (specialOf (.ref (h.objs.size + 1)) "__init__") (some (.ref f)):=t1.andThen (hi.keeps k)
 have bb:=(hb (.ref (h.objs.size + 1))).keeps k
 refine Jk (N3 (Q:=λv s'=>v= .ref (h.objs.size + 1)/\R (.ok (.ret v)) s') ii ss bb (IV hq λr s' z=>?_)) (λfin s' z=>?_) λ_ _ z=>z
 ·induction r with
  |error e=>exact z
  |ok fl=>
   induction fl with
   |ret v=>exact ⟨z.1,rfl,z.2⟩
   |_=>exact z.elim
 ·obtain ⟨v,rfl,rfl,z⟩:=z
  exact z
end
section
variable {M:Model}
theorem Uw{Γ:PySem.Ctx}{post:List Stmt}{Q:Flow->Pos->Rk->Prop}{E:Rm->Pos->Rk->Prop}:∀{pre:List Stmt}{p:Pos}{s:Rk},
  Sem.wp M Γ (execs pre env) (λf p' s'=>match f with | .next=>Sem.wp M Γ (execs post env) Q E p' s' |f=>Q f p' s') E p s->Sem.wp M Γ (execs (pre++post) env) Q E p s:=by
 intro ux
 induction ux with
 |nil=>
  intro p s h
  exact h
 |cons st r ih=>
  intro p s h
  rw[execs_cons,Sem.wp_bind'] at h
  rw[List.cons_append,execs_cons,Sem.wp_bind']
  refine Sem.wp_mono M Γ _ (λf p' s' h'=>?_) (λ_ _ _ h'=>h') p s h
  induction f with
  |next=>exact ih h'
  |_=>exact h'
theorem I3{pre post:List Stmt}{Q:Flow->Rk->Prop}(h:Za M A (execs pre env) (λf s'=>match f with | .next=>Za M A (execs post env) Q E s' |f=>Q f s') E s):
  Za M A (execs (pre++post) env) Q E s:=λΓ p hΓ h1 h2=>by
 refine Uw (Sem.wp_mono M Γ _ (λf p' s' h'=>?_) (λ_ _ _ h'=>h') p s (h Γ p hΓ h1 h2))
 induction f with
 |next=>exact h' Γ p' hΓ h1 h2
 |_=>exact h'
theorem MT{st:Stmt}{rest:List Stmt}{Q:Flow->Rk->Prop}(h:Za M A (exec st env) (λf s'=>match f with | .next=>Za M A (execs rest env) Q E s' |f=>Q f s') E s):
  Za M A (execs (st::rest) env) Q E s:=λΓ p hΓ h1 h2=>by
 rw[execs_cons,Sem.wp_bind']
 refine Sem.wp_mono M Γ _ (λf p' s' h'=>?_) (λ_ _ _ h'=>h') p s (h Γ p hΓ h1 h2)
 induction f with
 |next=>exact h' Γ p' hΓ h1 h2
 |_=>exact h'
end
section
variable {prog:Program}{w:World}
theorem MC(body:List Stmt)(env:Env):ZZ (.func body env)=true:=rfl
theorem MF
  (h:Za (model prog w) (A.deeper env) (execs body env) (λf s'=>R (.ok (.ret (match f with | .ret v=>v |_=> .none))) s') (λ_ _=>False) s):
  Zq (model prog w) A (.func body env) R s:=by
 refine YP (MC _ _) ?_
 show Za _ (A.deeper env) (do point;match ←(execs body env).onRaise (leaving env) with | .ret v=>ret v |_=>ret .none) _ _ s
 refine ZV (wpAny_point (Zf (Xbp (Jk h (λf s' h'=>?_) λ_ _ h'=>h'.elim))))
 induction f<;>exact Jl h'
theorem Bp(body:List Stmt)(env:Env):(Code.func body env).quiet=true:=rfl
theorem UI{o:Obj}{args:Args}{binds:List (Str×Rm)}
  (hroom:A.depth < recursionLimit)(ho:s.heap.get? a=some o)(hdata:o.data= .func fd)(hlim:s.heap.NoLimit)(hcd:s.heap.CodeRec fd.code fd.qualname)
  (hbody:fd.body= .stmts body)(hbind:BindsTo s fd args binds)(hcell:∀x∈fd.scope.names,x.2≠ .cell)(hloc:∀x∈binds,fd.scope.names.lookup x.1=some .local)
  (h:∀h₀,h₀.Ns s.heap.objs.size (λx=>binds.reverse.lookup x)->(∀b o,s.heap.get? b=some o->h₀.get? b=some o)->
   Za (model prog w) (A.deeper (callEnv fd s.heap.objs.size a)) (execs body (callEnv fd s.heap.objs.size a)) (λf s'=>R (.ok (.ret (match f with | .ret v=>v |_=> .none))) s') (λ_ _=>False)
    {s with heap:=h₀,toks:=s.toks + binds.length})
  (hco:fd.scope.isCoroutine=false)(hgen:fd.scope.isGenerator=false)(hk:fd.scope.kind= .function):
  Zq (model prog w) A (.call (.ref a) args) R s:=by
 refine YP (Jh _ _) ?_
 refine Yr ?_
 show wpAny _ A.in1 (callAny (.ref a) args) _ _ s
 simp only [callAny]
 refine Qg (wpAny_load ho ?_)
 refine x44 hcd λc oc vs tq hc hoc hdc hq=>?_
 simp only [hdata,callFunction,hco,hgen,hbody,hc]
 refine Qg (m:=field (.ref c) 1) (wpAny_field hoc hdc hq (Qg (Qh ?_)))
 refine Qg (hbind _ _ _ _ ?_)
 refine Qg (wpAny_newFunctionEnv hcell hloc (λh₀ hns₀ hsb₀=>?_) hk)
 refine Qg (wpAny_enterFrame (hlim.fresh _ hsb₀) hroom ?_)
 refine Qh (a:=Fin.again (.func body _)) ⟨Bp _ _,MF ?_⟩
 have:=h h₀ hns₀ λb o e=>hsb₀.extBut b o (Qz (Qu e)) (Qj _ e)
 unfold callEnv at this
 rw[hc] at this
 exact this
end
section
variable {M:Model}
theorem XkI{o:Expr}{attr:Str}{pos':Pos}{Q:Flow->Rk->Prop}
  (h:Za M A (eval value env) (λv s₁=>wpAny M A (eval o env) (λov s₂=>wpAny M A (setAttr ov attr v) (λ_=>Q .next) E s₂) E s₁) E s)
  (hs:swapsWith value (some (.Attribute o attr pos')) pos.line env=pure false):Za M A (exec (.Assign [.Attribute o attr pos'] value pos) env) Q E s:=λΓ p hΓ c1 c2=>by
 rw[plainObj_exec_Assign_Attribute o attr pos' value pos hs]
 simp only [assign_Attribute,Sem.wp_bind',Sem.wp_holding,Sem.wp_cmd_standAt,Sem.wp_release,Sem.wp_pure']
 exact Sem.wp_mono M Γ _ (λv p₁ s₁ h₁=>Sem.wp_mono M Γ _ (λov _ s₂ h₂=>h₂ Γ _ hΓ) (λ_ _ _ h'=>h') _ _ (h₁ Γ p₁ hΓ)) (λ_ _ _ h'=>h') _ _ (h Γ _ hΓ c1 c2)
theorem Xr1{test:Expr}{orelse:List Stmt}{Q:Flow->Rk->Prop}
  (h:Za M A (isTrue test env (eval test env)) (λb s₂=>if b then Za M A (execs body env) Q E s₂ else Za M A (execs orelse env) Q E s₂) E s):Za M A (exec (.If test body orelse pos) env) Q E s:=λΓ p hΓ c1 c2=>by
 rw[exec_If]
 simp only [Sem.wp_bind',Sem.wp_cmd_standAt]
 refine Sem.wp_mono M Γ _ (λb p₂ s₂ h₂=>?_) (λ_ _ _ h'=>h') _ _ (h Γ _ hΓ c1 c2)
 induction b<;>exact h₂ Γ p₂ hΓ c1 c2
theorem Xjn{x:Expr}{Q:Bool->Rk->Prop}(h:Za M A (isTrue x env (eval x env)) (λc s'=>Q (!c) s') E s):Za M A (isTrue (.UnaryOp .Not x pos) env whole) Q E s:=by
 show Za M A (do return !(←isTrue x env (eval x env))) Q E s
 exact Zf (Jk h (λc s' h'=>Jl h') λ_ _ x=>x)
theorem Xn2{x:Expr}{rest:List Expr}{Q:Bool->Rk->Prop}
  (h:Za M A (isTrue x env (eval x env)) (λc s'=>if c then Q true s' else Za M A (isTrue (.BoolOp .Or rest pos) env whole) Q E s') E s):Za M A (isTrue (.BoolOp .Or (x::rest) pos) env whole) Q E s:=by
 show Za M A (do
  match BoolOp.Or,←isTrue x env (eval x env) with
  | .And,false=>pure false
  | .Or,true=>pure true
  |_,_=>allTrue .Or rest env) Q E s
 refine Zf (Jk h (λc s' h'=>?_) λ_ _ x=>x)
 induction c with
 |false=>exact h'
 |true=>exact Jl h'
theorem XdG{Q:Bool->Rk->Prop}(h:Za M A whole (λv s₁=>wpAny M A (truthy v) Q E s₁) E s)
  (he:isTrue e env whole=(do let v ←whole;standAt e.pos;holding [v] (truthy v))):Za M A (isTrue e env whole) Q E s:=by
 rw[he]
 exact Zf (Jk h (λv s₁ h₁=>Yr (Qg (wpAny_standAt (QB h₁)))) λ_ _ x=>x)
theorem I4{P:Heap->Prop}{f:Rm}{args:List (Bool×Sem Rm)}(hplain:args.any (·.1)=false)
  (hk:∀h,P h->∃k,(k=Keeper.frame∨k=Keeper.machine)/\Looks M h (keeperOf f) k)
  (h:wpAny M A (evalArgs f true args []) (λa s₁=>P s₁.heap/\Za M A (call f (first++a.pos) a.kw) Q E s₁) E s):Za M A (callWith pos f first args []) Q E s:=by
 unfold callWith
 refine ZV (QB (wpAny_mono h (λa s₁ h₁=>ZV (wpAny_standAt ?_)) λ_ _ x=>x))
 refine YB (hk _ h₁.1) λk hk' L=>?_
 simp only [hplain,List.any_nil,Bool.or_false]
 refine ZV (L.here ?_)
 have tail:∀{t:Sem Rm},Za M A t Q E s₁->Za M A (t>>=λr=>holding [r] point>>=λ_=>pure r) Q E s₁:=
  λht=>Zf (Jk ht (λr s₂ hr=>ZV (QB (wpAny_point (Jl hr)))) λ_ _ x=>x)
 have marked (mk:Rm):Za M A (callMarked mk f (first++a.pos) a.kw) Q E s₁:=λΓ p hΓ c1 c2=>by
  unfold callMarked
  rw[Sem.wp_keep]
  exact h₁.2 Γ p hΓ c1 c2
 rcases hk' with rfl |rfl<;>dsimp only
 ·split
  ·exact tail h₁.2
  ·exact tail (marked _)
 ·exact tail h₁.2
theorem XdF{func:Expr}
  (h:wpAny M A (eval func env) (λf s₁=>Za M A (callWith pos f [] (backTo pos (starEach args env)) []) Q E s₁) E s)
  (he:eval (.Call func args [] pos) env=(do callWith pos (←eval func env) [] (backTo pos (starEach args env)) (backToKw pos (keywordEach [] env))):=by rfl):
  Za M A (eval (.Call func args [] pos) env) Q E s:=by
 rw[he];exact ZV h
end
def SEG(C:Cx)(n:Nat)(L:Rn)(k:K)(x:M)(t:Sem Rm):Prop:=
 ∀A,YK A n->∀Ro Rq σ l s m v σ',At C L Ro Rq σ l s.heap m->x k l σ= .ok v σ'->∀Q E,PE C L Ro Rq s.heap σ' l v Q s->Za (model C.prog C.w) A t Q E s
def SSG(C:Cx)(n:Nat)(L:Rn)(k:K)(x:MS)(t:Sem Flow):Prop:=
 ∀A,YK A n->∀Ro Rq σ l s m out,At C L Ro Rq σ l s.heap m->x k l σ=out->out≠ .no->∀Q E,PS C L Ro Rq s.heap out Q s->Za (model C.prog C.w) A t Q E s
def UE(C:Cx)(n:Nat)(call:Je):Prop:=
 ∀A,X5 A n->∀f args σ v σ' Ro Rq s fv vs,call f args σ= .ok v σ'->Rp C Ro Rq σ s.heap->VR C.ρ Ro f fv->YH C.ρ Ro args vs->∀R:Result->Rk->Prop,
  (N0 C Ro Rq s σ' v R)->
  Zq (model C.prog C.w) A (.call fv ⟨vs,[]⟩) R s
theorem SS.g{x:MS}{t:Sem Flow}(h:SS C n L k x t):SSG C n L k x t:=λA g Ro Rq σ l s m v T e hn Q E hq=>Yr (h A g Ro Rq σ l s m v T e hn Q E hq)
theorem Xjp{x y:MS}{a:Stmt}{r:List Stmt}(hx:SSG C n L k x (exec a env))(hy:SSG C n L k y (execs r env)):SSG C n L k (Xd x y) (execs (a::r) env):=by
 intro A g Ro Rq σ l s m out T e hn Q E h
 replace e:(x k l σ).to (y k)=out:=e
 induction q:x k l σ with
 |no=>rw[q] at e;exact absurd e.symm hn
 |next l1 σ1=>
  rw[q] at e
  refine MT (hx A g _ _ _ _ _ _ _ T q nofun _ _ λh1 t1 Ru Rv m1 G1 T1=>?_)
  exact hy A g _ _ _ _ {s with heap:=h1,toks:=t1} _ _ T1 e hn _ _ (h.step G1)
 |ret v σ1=>
  rw[q] at e
  subst e
  exact MT (hx A g _ _ _ _ _ _ _ T q nofun _ _ λh1 t1 Ru Rv m1 l1 val G1 T1 R1=>h h1 t1 Ru Rv m1 l1 val G1 T1 R1)
theorem Xjo{x y:MS}{a r:List Stmt}(hx:SSG C n L k x (execs a env))(hy:SSG C n L k y (execs r env)):SSG C n L k (Xd x y) (execs (a++r) env):=by
 intro A g Ro Rq σ l s m out T e hn Q E h
 replace e:(x k l σ).to (y k)=out:=e
 induction q:x k l σ with
 |no=>rw[q] at e;exact absurd e.symm hn
 |next l1 σ1=>
  rw[q] at e
  refine I3 (hx A g _ _ _ _ _ _ _ T q nofun _ _ λh1 t1 Ru Rv m1 G1 T1=>?_)
  exact hy A g _ _ _ _ {s with heap:=h1,toks:=t1} _ _ T1 e hn _ _ (h.step G1)
 |ret v σ1=>
  rw[q] at e
  subst e
  exact I3 (hx A g _ _ _ _ _ _ _ T q nofun _ _ λh1 t1 Ru Rv m1 l1 val G1 T1 R1=>h h1 t1 Ru Rv m1 l1 val G1 T1 R1)
theorem XdL(O:C.Ok)(hk:k.cls=Xr.get){o:Expr}(hy:SEG C n L k y (eval e env))(hx:SE C n L k x (eval o env))(hn:Zc[i]?=some nm)(hs:swapsWith e (some (.Attribute o nm p)) pos.line env=pure false):
  SSG C n L k (Xl x i y) (exec (.Assign [.Attribute o nm p] e pos) env):=by
 intro A g Ro Rq σ l s m out T e' hno Q E h
 refine Y5 (Xu.of_toS e' hno) λw σ1 e1 e2=>?_
 refine Y5 (Xu.of_toS e2 hno) λu σ2 e3 e4=>?_
 refine XkI (hy A g _ _ _ _ _ _ _ _ T e1 _ _ λh1 t1 Ru Rv m1 v1 G1 T1 R1=>?_) hs
 refine hx A g _ _ _ _ {s with heap:=h1,toks:=t1} _ _ _ T1 e3 _ _ λh2 t2 Rz RA m2 v2 G2 T2 R2=>?_
 exact IJ (s:={s with heap:=h2,toks:=t2}) O hk T2 R2 (R1.mono G2.pre) hn e4 hno (h.step (G1.trans G2))
def Xfs(c:Je)(x:M):M:=λk l s=>x {k with call:=c} l s
theorem XdE{c:Je}{t:Sem Rm}(h:SEG C n L {k with call:=c} x t):SEG C n L k (Xfs c x) t:=λA g Ro Rq σ l s m v σ' T e Q E hq=>h A g Ro Rq σ l s m v σ' T e Q E hq
theorem GQ(hc:UE C n k.call)(g:YK A n){Ro Rq σ l s m f us v σ' fv vs}(T:At C L Ro Rq σ l s.heap m)(Rf:VR C.ρ Ro f fv)(Rs:YH C.ρ Ro us vs)
  (e:k.call f us σ= .ok v σ'){E}(h:PE C L Ro Rq s.heap σ' l v Q s):Za (model C.prog C.w) A (call fv vs) Q E s:=
 DZ (hc A g.cc _ _ _ _ _ _ _ s _ _ e T.rp Rf Rs _ λh' t Rr Rt val G R V=>h h' t Rr Rt m val G.calm (T.called G R) V)
theorem Ki(O:C.Ok)(hc:UE C n k.call){f:V}{fv:Rm}{x:Str}{y:ML}(hf:SE C n L k (Xv f) (eval (.Name x p) env))(hff:∀Ro u,VR C.ρ Ro f u->u=fv)(hk:keepIn C.K fv=true)
  (hs:Ys args=true)(hy:SL C n L k y (spliced (backTo pos (starEach args env))))(h0:args=[]->y=Xe):
  SEG C n L k (Xk f y) (eval (.Call (.Name x p) args [] pos) env):=by
 intro A g Ro Rq σ l s m v σ' T e' Q E h
 refine Ir e' λus σ1 e1 e2=>?_
 refine XdF (hf A g _ _ _ _ _ _ _ _ T rfl _ _ λh1 t1 Ru Rv m1 v1 G1 T1 R1=>?_)
 have:=hff _ _ R1
 subst this
 have keep:∀h,C.K.In h->∃k,(k=Keeper.frame∨k=Keeper.machine)/\Looks (model C.prog C.w) h (keeperOf v1) k:=λh X=>looks_keep hk X
 refine I4 (P:=C.K.In) (Jd hs) keep ?_
 induction args with
 |nil=>
  rw[h0 rfl] at e1
  cases e1
  exact evalArgs_nil3 ⟨T1.okK O,GQ (s:={s with heap:=h1,toks:=t1}) hc g T1 R1 .nil e2 (h.step G1)⟩
 |cons a r=>
  refine b2 (show (Y9 a&&Ys r)=true from hs) λq1 q2=>?_
  have hy':=hy A g _ _ _ _ {s with heap:=h1,toks:=t1} _ _ _ T1 e1 (λvs s₁=>C.K.In s₁.heap/\Za (model C.prog C.w) A (call v1 ([]++vs)) Q E s₁) E λh2 t2 Rz RA m2 vs G2 T2 R2=>⟨T2.okK O,GQ (s:={s with heap:=h2,toks:=t2}) hc g T2 (R1.mono G2.pre) R2 e2 (h.step (G1.trans G2))⟩
  rw[XX q1] at hy' ⊢
  exact evalArgs_plain hy'
theorem gBa(O:C.Ok)(hE:ZC env L)(e:nsIn C.K mainGlobals ("bytearray":Str)=some none)(hl:env.kindOf ("bytearray":Str)=some .globalImplicit):
  SEG C n L k (YI 8 Xe) (eval (.Call (.Name ("bytearray":Str) p) [] [] pos) env):=by
 intro A g Ro Rq σ l s m v σ' T e' Q E h
 replace e':UU σ .barr= .ok v σ':=e'
 replace h:=h.eq e'
 refine XdF (JC hE T.fr O.inK O.top e (v:= .type "bytearray") (by kernel_rfl) (by decide) ?_ hl (by decide))
 refine I4 (P:=λ_=>True) rfl (λh _=>⟨.machine,.inr rfl,Looks.of_pure rfl⟩) (evalArgs_nil3 ⟨trivial,?_⟩)
 refine XfM g.2.2.2 λh' e1 e2=>?_
 have F':Fr C.H0 L h' m:=by
  refine x32 T.fr.ns λo es ep f1 f2=>?_
  exact ⟨⟨o,es,ep,e2 _ _ f1,f2⟩,λb o hb=>e2 b o (T.fr.keep b o hb),T.fr.above⟩
 have hs:s.heap.get? s.heap.objs.size=none:=Ye _
 have hL:s.heap.objs.size≠L:=by
  refine x32 T.fr.ns λo es ep f1 f2=>?_
  exact λq=>Qz (Qu f1) q.symm
 have h0:C.H0.get? s.heap.objs.size=none:=by
  induction q:C.H0.get? s.heap.objs.size with
  |none=>rfl
  |some o=>rw[T.rp.keep _ _ q] at hs;exact snn hs
 have N':News C.H0 L h' ((s.heap.objs.size,{cls:= .type "bytearray",data:= .bytearray #[] 0})::WN C.H0 L s.heap):=λq hq=>by
  rcases Qe hq with rfl |hq
  ·exact ⟨e1,hL,h0⟩
  ·refine YF (Y1.mp hq) λf1 f2 f3=>?_
   exact ⟨e2 _ _ f1,f2,f3⟩
 refine YO (At.new T F' N' (o:= .barr) λRt e=>e) λRt G T' hn=>?_
 exact h h' s.toks _ Rt m _ G T' (.ref _ _ hn)
structure BN(C:Cx)(n:Nat)(f:Rn)(fd:FuncData)(fc:X7)(body:List Stmt)(cal:Je):Prop where
 obj:∃oc od sl,C.K.lookup f=some ⟨oc,od,.func fd,sl⟩
 code:codeIn C.K fd.code fd.qualname=true
 stmts:fd.body= .stmts body
 cell:∀x∈fd.scope.names,x.2≠ .cell
 co:fd.scope.isCoroutine=false
 gen:fd.scope.isGenerator=false
 kind:fd.scope.kind= .function
 bind:Dy C fd fc
 run:∀L F G,Xm C.ρ F->XS C.ρ G->SSG C n L ⟨F,G,Xr.get,842,cal⟩ fc.body (execs body (callEnv fd L f))
theorem IT(Rx:C.cells=[])(O:C.Ok){f:Rn}(K:BN C n f fd fc body cal)(hX1:X.top.cls=Xr.get)(hX2:X.top.wheelC=842)(HF:Xm C.ρ X.F)(HG:XS C.ρ X.G)(g:X5 A (n + 1)){Ro Rq σ}{args vs v σ'}
  (R:Rp C Ro Rq σ s.heap)(Rs:YH C.ρ Ro args vs)(e:Zw X cal args σ (some fc)= .ok v σ')(Q:Result->Rk->Prop)
  (h:N0 C Ro Rq s σ' v Q):
  Zq (model C.prog C.w) A (.call (.ref f) ⟨vs,[]⟩) Q s:=by
 refine x31 K.obj λoc0 od sl ho=>?_
 have X0:C.K.In s.heap:=O.inK.keeps R.keep
 refine WA (show oc (Jg fc.params args fc.dflts) .no (λl=>Ze (fc.body (Ik X cal) l σ))= .ok v σ' from e) λl e1 e2=>?_
 refine YO (K.bind Ro args vs l s X0 Rs e1) λbinds b1 b2 b3=>?_
 have hk:Ik X cal=⟨X.F,X.G,Xr.get,842,cal⟩:=by unfold Ik;rw[hX1,hX2]
 rw[hk] at e2
 have hg:A.depth < recursionLimit:=by show A.depth < 1000;have:=g.2.1;lia
 refine UI hg (X0 _ _ ho) rfl (O.top.nolimit.keeps R.keep) (codeRec_of X0 K.code) K.stmts b1 K.cell b2 (λh₀ hns hkeep=>?_) K.co K.gen K.kind
 have hL0:s.heap.get? s.heap.objs.size=none:=Ye _
 have F:Fr C.H0 s.heap.objs.size h₀ (λx=>binds.reverse.lookup x):=⟨hns,λb o e=>hkeep b o (R.keep b o e),R.big⟩
 have T:At C s.heap.objs.size Ro (λb=>if b=s.heap.objs.size then none else Rq b) σ l h₀ (λx=>binds.reverse.lookup x):=by
  refine ⟨⟨R.len,λb o e=>?_,F.keep,JS F,λi o e=>?_⟩,F,if_pos rfl,b3,λp hp=>by rw[Rx] at hp;cases hp⟩
  ·show (if b=s.heap.objs.size then none else Rq b)=none
   split
   ·rfl
   ·exact R.old b o e
  ·refine YO (R.obj i o e) λa h1 h2 h3=>?_
   obtain ⟨y,hy⟩:=h3.live
   have ha:a≠s.heap.objs.size:=Qz (Qu hy)
   refine ⟨a,h1,(if_neg ha).trans h2,h3.mono h2 Qy (λb o _ e=>hkeep b o e) λb hb=>if_neg ?_⟩
   rintro rfl
   rw[hL0] at hb;exact ff hb
 have back:∀{Rr Rt h'},XJ (·=s.heap.objs.size) Ro (λb=>if b=s.heap.objs.size then none else Rq b) h₀ Rr Rt h'->XJ (λ_=>False) Ro Rq s.heap Rr Rt h':=λG=>
  ⟨G.pre,λb o e=>(G.same b o (hkeep b o e)).trans (if_neg (Qz (Qu e))),λb o e hn _=>G.keep b o (hkeep b o e) ((if_neg (Qz (Qu e))).trans hn) (Qz (Qu e)),λb o e=>G.live b o (hkeep b o e)⟩
 have run:=K.run s.heap.objs.size X.F X.G HF HG (A.deeper (callEnv fd s.heap.objs.size f)) g.deeper Ro _ σ l {s with heap:=h₀,toks:=s.toks + binds.length} _ _ T rfl
 generalize hout:fc.body ⟨X.F,X.G,Xr.get,842,cal⟩ l σ=out at run e2
 refine Jk (run (by rintro rfl;cases e2) (λfl s'=>Q (.ok (.ret (match fl with | .ret v=>v |_=> .none))) s') (λ_ _=>False) ?_) (λ_ _ x=>x) λ_ _ x=>x
 induction out with
 |no=>exact Y3 e2
 |next l1 σ1=>
  replace h:=h.eq e2
  exact λh' t Rr Rt m' G T'=>h h' t Rr Rt _ (back G) T'.rp .none
 |ret u σ1=>
  replace h:=h.eq e2
  exact λh' t Rr Rt m' l' val G T' V=>h h' t Rr Rt val (back G) T'.rp V
theorem GP(O:C.Ok){r:Je}(hr:UE C n r)(g:X5 A (n + 1)){c:Nat}{cl:Ig}(hcl:Xr.get c=some cl){Ro Rq σ}{args vs v σ'}(R:Rp C Ro Rq σ s.heap)(Rs:YH C.ρ Ro args vs)(e:Uc r c args σ (some cl)= .ok v σ')(Q:Result->Rk->Prop)
  (h:N0 C Ro Rq s σ' v Q):
  Zq (model C.prog C.w) A (.call (.ref c) ⟨vs,[]⟩) Q s:=by
 have Kc:=O.cls c cl hcl
 refine Js (show (r (.fn cl.init) (.ref (Nat.add σ.n 1)::args) ⟨(σ.h.set (.flds c []) σ.n).set (.inst c σ.n) (Nat.add σ.n 1),Nat.add σ.n 2⟩).to .no (Xea (Nat.add σ.n 1))= .ok v σ' from e) λu σ1 e1 e2=>?_
 refine Ny (show bc (Z1 u) (.ok (.ref (Nat.add σ.n 1)) σ1) .no=Xu.ok v σ' from e2) λe3 e4=>?_
 replace h:=h.eq e4
 obtain ⟨hh,gs,d,t,os⟩:=s
 have X0:C.K.In hh:=O.inK.keeps R.keep
 have hbig:C.H0.objs.size<=hh.objs.size:=R.big
 have f0:∀a,hh.objs.size<=a->C.H0.get? a=none:=λa ha=>by
  induction q:C.H0.get? a with
  |none=>rfl
  |some o=>exact absurd (Qu q) (Nat.not_lt.mpr (QH hbig ha))
 refine Xk6 (makes_of X0 Kc.makes) (looks_findIn X0 Kc.init) (λself=>bind_fn X0 self Kc.initF) ?_
 have hs1:(hh.push emptyDict).objs.size=hh.objs.size + 1:=Heap.size_push ..
 have hs2:((hh.push emptyDict).push (instObj c hh.objs.size)).objs.size=hh.objs.size + 1 + 1:=by rw[←hs1];exact Heap.size_push ..
 have k1:∀b o,hh.get? b=some o->(hh.push emptyDict).get? b=some o:=λb o e=>Qj _ e
 have k2:∀b o,(hh.push emptyDict).get? b=some o->((hh.push emptyDict).push (instObj c hh.objs.size)).get? b=some o:=λb o e=>Qj _ e
 have R1:Rp C (Ro++[hh.objs.size]) (λb=>if b=hh.objs.size then some σ.n else Rq b) ⟨σ.h.set (.flds c []) σ.n,σ.n + 1⟩ (hh.push emptyDict):=
  R.new (Ye hh) (f0 _ (QS _)) (λb o _ e=>k1 b o e) (λb o e=>k1 b o (R.keep b o e)) (by rw[hs1];exact Nat.le_succ_of_le hbig)
   ⟨[],0,QA _ rfl,.nil,QP,cl,hcl,λp hp=>by cases hp⟩
 have R2:Rp C ((Ro++[hh.objs.size])++[hh.objs.size + 1]) (λb=>if b=hh.objs.size + 1 then some (σ.n + 1) else (if b=hh.objs.size then some σ.n else Rq b)) ⟨(σ.h.set (.flds c []) σ.n).set (.inst c σ.n) (σ.n + 1),σ.n + 1 + 1⟩ ((hh.push emptyDict).push (instObj c hh.objs.size)):=by
  have:=R1.new (a:=hh.objs.size + 1) (o':= .inst c σ.n) (h':=(hh.push emptyDict).push (instObj c hh.objs.size)) (by rw[←hs1];exact Ye _) (f0 _ (Nat.le_succ _)) (λb o _ e=>k2 b o e) (λb o e=>k2 b o (R1.keep b o e)) (by rw[hs2];exact QH hbig (Nat.le_add_right _ 2))
   ⟨hh.objs.size,by
    have:(Ro++[hh.objs.size])[σ.n]?=some hh.objs.size:=by rw[←R.len];exact QU
    exact Yb (Qr _ _) this,by rw[←hs1];exact QA _ rfl⟩
  exact this
 have hx:((Ro++[hh.objs.size])++[hh.objs.size + 1])[σ.n + 1]?=some (hh.objs.size + 1):=by
  have:(Ro++[hh.objs.size]).length=σ.n + 1:=by rw[Qw,R.len];rfl
  rw[←this];exact QU
 have p1:Ro <+:(Ro++[hh.objs.size])++[hh.objs.size + 1]:=(Qr _ _).trans (Qr _ _)
 have G1:XJ (λ_=>False) Ro Rq hh ((Ro++[hh.objs.size])++[hh.objs.size + 1]) (λb=>if b=hh.objs.size + 1 then some (σ.n + 1) else (if b=hh.objs.size then some σ.n else Rq b)) ((hh.push emptyDict).push (instObj c hh.objs.size)):=⟨p1,λb o e=>by
  have l1:b < hh.objs.size:=Qu e
  have n1:¬b=hh.objs.size + 1:=by intro q;rw[q] at l1;exact absurd l1 (by simp)
  have n2:¬b=hh.objs.size:=by intro q;rw[q] at l1;exact absurd l1 (by simp)
  show (if b=hh.objs.size + 1 then some (σ.n + 1) else (if b=hh.objs.size then some σ.n else Rq b))=Rq b
  rw[if_neg n1,if_neg n2],λb o e _ _=>k2 b o (k1 b o e),λb o e=>⟨o,k2 b o (k1 b o e)⟩⟩
 refine hr _ (g.under c vs) _ _ _ _ _ _ _ ⟨_,gs,d,t,os⟩ _ _ e1 R2 (.fn cl.init) (.cons (.ref _ _ hx) (Rs.mono p1)) _ λh' kk Rr Rt val G' R' V'=>?_
 have hv:val= .none:=by
  have:=Jc V'
  rw[e3] at this
  exact eq_of_beq this.symm
 exact ⟨hv,h h' kk Rr Rt _ (G1.trans G') R' (.ref _ _ (Yb G'.pre hx))⟩
theorem Kd(O:C.Ok)(Ry:C.cellv=[]){f:Rn}{oc:Rm}{sl}{P:List Str}
  (h1:C.K.lookup f=some ⟨oc,od,.func (fnOf name qual params body scope dV kV doc pm an cdv ct),sl⟩)(h2:codeIn C.K cdv qual=true)(h3:KE scope=true)
  (hP:P.map Nf=fc.params.map some)(hN:Z2 P=true)(hloc:(P.all λx=>Jz (XC scope.names x))=true)(hd:∀Ro,YH C.ρ Ro fc.dflts dv)
  (hb:J9 C.K (fnOf name qual params body scope dV kV doc pm an cdv ct) P dv)(n:Nat)(cal:Je)
  (hrun:∀L F G env,Xm C.ρ F->XS C.ρ G->Yu C scope [] [] L env->SSG C n L ⟨F,G,Xr.get,842,cal⟩ fc.body (execs body env)):
  BN C n f (fnOf name qual params body scope dV kV doc pm an cdv ct) fc body cal:=by
 refine b4 h3 λg1 g2 g3 g4=>?_
 exact {obj:=⟨_,_,_,h1⟩,code:=h2,stmts:=rfl,cell:=ZK g1,co:=YY g2,gen:=YY g3,kind:=YM g4,bind:=U9 Ry hP hN hloc hd hb,run:=λL F G HF HG=>hrun L F G _ HF HG ⟨⟨rfl,rfl,rfl,YM g4⟩,rfl,nofun,λx _=>by rw[Ry];rfl⟩}
def Of:Pos:=⟨0,0,0,0⟩
def bI:List Stmt:=(XL 91 0).2.1
def scI:Scope:=(XL 91 0).2.2
def XjT:Str:=QW "self"
def XeS:Str:=QW "ready"
noncomputable def Xpm(s:Stmt):Pos×Pos×Pos×Pos×Pos:=(UC s [1,0],UC s [1],UC s [0,0],UC s [0],s.pos)
def pI:Pos×Pos×Pos×Pos×Pos:=Xpm (N9 bI 4)
def Xpo:MS:=(Xd (Xl (Xb 9) 6 (Xb 6))
 (Xd (Xl (Xb 9) 47 (Xb 47))
 (Xd (Xl (Xb 9) 19 (Xb 19))
 (Xd (Xl (Xb 9) 67 (Xk (.fn 96) (Xa (Xb 157) (Xa (Xf 1) (Xa (Xb 6) Xe))))) Xg))))
def XjM:MS:=(Xd (Xl (Xb 9) 161 (Xk (.cls 1128) (Xa (Xb 6) Xe)))
 (Xd (Xl (Xb 9) 160 (Xk (.fn 96) (Xa (Xj (Xb 9) 67) (Xa (Xb 47) (Xa (Xb 6) Xe)))))
 (Xd (Xl (Xb 9) 159 XD)
 (Xd (Xl (Xb 9) 83 (XE false))
 (Xd (Xl (Xb 9) 158 XD) Xg)))))
def fnI:X7:=⟨[9,157,6,47,19],[.int (Xn 1)],Xd Xpo (Xd (Xl (Xb 9) 162 (YI 8 Xe)) XjM)⟩
theorem Xnc:bI=bI.take 4++ .Assign [.Attribute (.Name XjT pI.1) XeS pI.2.1] (.Call (.Name ("bytearray":Str) pI.2.2.1) [] [] pI.2.2.2.1) pI.2.2.2.2::bI.drop 5:=by kernel_rfl
theorem Xlp:XY Z6 [] scI [] (bI.take 4)=some Xpo:=by kernel_rfl
theorem Xha:XY Z6 [] scI [] (bI.drop 5)=some XjM:=by kernel_rfl
theorem Xhz:Yi Z6 [] 40 scI [] (.Name XjT pI.1)=some (Xb 9):=by kernel_rfl
theorem XeT:Zc[162]?=some XeS:=by kernel_rfl
theorem Xng:XC scI.names ("bytearray":Str)=some .globalImplicit:=by kernel_rfl
theorem XfQ(P:Rj):nsIn (KF P) mainGlobals ("bytearray":Str)=some none:=by kernel_rfl
theorem XvF:([QW "self",QW "irs",QW "ring",QW "room",QW "mss"]:List Str).map Nf=fnI.params.map some:=by kernel_rfl
theorem XvI:(KE (XL 91 0).2.2&&(Z2 [QW "self",QW "irs",QW "ring",QW "room",QW "mss"]&&([QW "self",QW "irs",QW "ring",QW "room",QW "mss"]:List Str).all λx=>Jz (XC (XL 91 0).2.2.names x)))=true:=by kernel_rfl
theorem XnO(O:C.Ok)(Ry:C.cellv=[])(hK:C.K=KF P)(n:Nat)(cal:Je)(hc:XB C n cal):BN C n 1147 (fdO "__init__" "Receiver.__init__" (XL 91 0) (Value.ref 1140) (Value.none) (Value.str (QW tsG) 1791) (Value.ref 1146)) fnI bI cal:=by
 refine b3 XvI λq1 q2 q3=>?_
 refine Kd O Ry (by rw[hK];exact Xod P) (by rw[hK];exact Xn7 P) q1 XvF q2 q3 (λRo=> .cons (.int _ _ _ (Rb _)) .nil) (by rw[hK];exact Xm8 P) n cal λL F G env HF HG X=>?_
 show SSG C n L ⟨F,G,Xr.get,842,cal⟩ fnI.body (execs bI env)
 rw[Xnc]
 have TB:Ua C Z6:=JO hK
 refine Xjo (X6 (k:=⟨F,G,Xr.get,842,cal⟩) O TB HF HG hc rfl rfl X Xlp).g (Xjp ?_ (X6 (k:=⟨F,G,Xr.get,842,cal⟩) O TB HF HG hc rfl rfl X Xha).g)
 exact XdL O rfl (gBa O X.l (by rw[hK];exact XfQ P) (X.kind Xng)) (YC (k:=⟨F,G,Xr.get,842,cal⟩) O TB HF HG hc rfl rfl 40 scI [] L env X _ _ Xhz) XeT (J6 rfl)
def Xf3(X:Mj)(r:Je):Je:=λf args s=>match f with
 | .fn a=>bc (Nat.beq a 1147) (Zw X r args s (some fnI)) .no
 |_=> .no
def Xf7(X:Mj)(r:Je):Je:=λf args s=>match f with
 | .cls c=>bc (Nat.beq c 1262) (Uc (Xf3 X r) 1262 args s (Xr.get 1262)) .no
 |_=> .no
set_option tactic.hygienic true
theorem Xf4(O:C.Ok)(Rx:C.cells=[])(Ry:C.cellv=[])(hK:C.K=KF P)(hX1:X.top.cls=Xr.get)(hX2:X.top.wheelC=842)(HF:Xm C.ρ X.F)(HG:XS C.ρ X.G){r:Je}(hr:XB C n r):UE C (n + 1) (Xf3 X r):=by
 intro A g f args σ v σ' Ro Rq s fv vs e R Rf Rs Q h
 induction f<;>try (exact Y3 e;done)
 rename_i a
 refine Rf.fnE ?_
 refine Ny (show bc (Nat.beq a 1147) (Zw X r args σ (some fnI)) .no= .ok v σ' from e) λc1 e=>?_
 have:=Qi c1
 subst this
 exact IT Rx O (XnO O Ry hK n r hr) hX1 hX2 HF HG g R Rs e Q h
theorem Xge:∃cl,Xr.get 1262=some cl:=⟨_,rfl⟩
theorem Xf8(O:C.Ok)(Rx:C.cells=[])(Ry:C.cellv=[])(hK:C.K=KF P)(hX1:X.top.cls=Xr.get)(hX2:X.top.wheelC=842)(HF:Xm C.ρ X.F)(HG:XS C.ρ X.G){r:Je}(hr:XB C n r):UE C (n + 2) (Xf7 X r):=by
 intro A g f args σ v σ' Ro Rq s fv vs e R Rf Rs Q h
 induction f<;>try (exact Y3 e;done)
 rename_i a
 refine Rf.clsE ?_
 refine Ny (show bc (Nat.beq a 1262) (Uc (Xf3 X r) 1262 args σ (Xr.get 1262)) .no= .ok v σ' from e) λc1 e=>?_
 have:=Qi c1
 subst this
 obtain ⟨cl,hcl⟩:=Xge
 replace e:Uc (Xf3 X r) 1262 args σ (Xr.get 1262)= .ok v σ':=e
 rw[hcl] at e
 exact GP O (Xf4 O Rx Ry hK hX1 hX2 HF HG hr) g hcl R Rs e Q h
set_option tactic.hygienic false
def bL:List Stmt:=(Yk 103).2.1
def scL:Scope:=(Yk 103).2.2
def Dm:Str:=QW "receiver"
def Nz:Str:=QW "Receiver"
def pL:(Pos×Pos×Pos×Pos×Pos)×List Expr:=(Xpm (N9 bL 6),(O2 (eAt (N9 bL 6) [0])).tail)
def Xpp:MS:=(Xd (Xz 106 (Xk (.cls 906) (Xa (Xk (.cls 863) (Xa (Xf 256) (Xa (Xf 4) (Xa (Xf 16) (Xa (Xf 16) (Xa (Xf 2) (Xa (Xf 2) (Xa (Xf 9999) (Xa (Xf 1) (Xa (Xf 2) (Xa (Xf 3) Xe))))))))))) (Xa (Yg (Xa (Xf 1) (Xa (Xf 10) Xe))) (Xa (Yg (Xa (Xf 2) (Xa (Xf 20) Xe))) (Xa (Xf 0) Xe))))))
 (Xd (Xl (Xb 106) 127 (Xf 9))
 (Xd (Xz 48 (Xk (.cls 261) (Xa (Xf 2) (Xa (Xf 4) (Xa (Xf 30) Xe)))))
 (Xd (Xz 182 (Yx (Xa (Xi (Xb 48) 69 Xe) (Xa (Xj (Xb 48) 26) (Xa (Xj (Xb 48) 25) (Xa (Xj (Xb 48) 24) (Xa (Xj (Xb 48) 23) (Xa (Xj (Xb 48) 22) Xe))))))))
 (Xd (Yn (Wf (Xp 1 (Xk (.fn 1008) (Xa (Xb 106) Xe)) (Xf 256)) (Xp 1 (Xb 182) (Yx (Xa (Xf 4) (Xa (Xf 30) (Xa (Xf 0) (Xa (Xf 0) (Xa (XE false) (Xa (XE false) Xe))))))))) (Xd (Xq (XE false)) Xg) Xg)
 (Xd (Xz 137 (Xk (.fn 1294) (Xa (Xk (.cls 863) (Xa (Xf 256) (Xa (Xf 4) (Xa (Xf 16) (Xa (Xf 16) (Xa (Xf 6) (Xa (Xf 4) (Xa (Xf 24) (Xa (Xf 3) (Xa (Xf 2) (Xa (Xf 12) Xe))))))))))) (Xa (Xf 12) Xe)))) Xg))))))
def Xcn:ML:=Xa (Xf 9) (Xa (Xf 256) (Xa (Xf 16) (Xa (Xf 4) Xe)))
def XjN:MS:=(Xd (Zb (Xi (Xj (Xb 137) 130) 181 (Xa (XE true) (Xa (Xf 5) Xe))))
 (Xd (Zb (Xi (Xj (Xb 137) 129) 71 (Xa (Xf 3) (Xa (Xi (Xj (Xb 137) 130) 147 Xe) Xe))))
 (Xd (Yn (Xp 1 (Xk (.fn 1015) (Xa (Xb 137) (Xa (Xf 6) Xe))) (Yx Xe)) (Xd (Xq (XE false)) Xg) Xg)
 (Xd (Xq (YQ 0 (Uu (Yg (Xa (Xj (Xb 178) 56) (Xa (Xj (Xb 178) 57) (Xa (Xj (Xb 178) 94) Xe)))) (Yh 178) [] (Xk (.fn 1015) (Xa (Xb 137) (Xa (Xf 7) Xe)))) (Yx (Xa (Yg (Xa (Xf 251) (Xa (Xf 10) (Xa (Xf 16) Xe)))) Xe)))) Xg))))
def fnL(c:Je):X7:=⟨[],[],Xd Xpp (Xd (Xl (Xb 137) 133 (Xfs c (Xk (.cls 1262) Xcn))) XjN)⟩
theorem Xnd:bL=bL.take 6++ .Assign [.Attribute (.Name Yt pL.1.1) Dm pL.1.2.1] (.Call (.Name Nz pL.1.2.2.1) pL.2 [] pL.1.2.2.2.1) pL.1.2.2.2.2::bL.drop 7:=by kernel_rfl
theorem Xlq:XY Z6 [] scL [] (bL.take 6)=some Xpp:=by kernel_rfl
theorem Xhb:XY Z6 [] scL [] (bL.drop 7)=some XjN:=by kernel_rfl
theorem Xms:Yi Z6 [] 40 scL [] (.Name Yt pL.1.1)=some (Xb 137):=by kernel_rfl
theorem XfH:cL (Yi Z6 [] 40 scL []) pL.2=some Xcn:=by kernel_rfl
theorem KQ:Zc[133]?=some Dm:=by kernel_rfl
theorem XrH:XC scL.names Nz=some .globalImplicit:=by kernel_rfl
theorem Xm6:XC Z6.gt Nz=some (.cls 1262,.ref 1262):=by kernel_rfl
def Wd:Je:=λ_ _ _=> .no
theorem ZR:XB C n Wd:=by intro A g f args σ v σ' Ro Rq s fv vs e;cases e
theorem XnP(O:C.Ok)(Ry:C.cellv=[])(hK:C.K=KF P)(n:Nat)(cal c:Je)(hc:XB C n cal)(hG:UE C n c):BN C n 1335 (fdO "_law_late_right" "_law_late_right" (Yk 103) (Value.none) (Value.none) (Value.str (QW "law_pq1202_01") 1960) (Value.ref 1334)) (fnL c) bL cal:=by
 refine b3 Xps λq1 q2 q3=>?_
 refine Kd (fc:=fnL c) O Ry (by rw[hK];exact Xog P) (by rw[hK];exact Xoa P) q1 (show ([]:List Str).map Nf=([]:List Nat).map some from rfl) q2 q3 (λRo=> .nil) (by rw[hK];exact Xna P) n cal λL F G env HF HG' X=>?_
 show SSG C n L ⟨F,G,Xr.get,842,cal⟩ (fnL c).body (execs bL env)
 rw[Xnd]
 have TB:Ua C Z6:=JO hK
 refine Xjo (X6 (k:=⟨F,G,Xr.get,842,cal⟩) O TB HF HG' hc rfl rfl X Xlq).g (Xjp ?_ (X6 (k:=⟨F,G,Xr.get,842,cal⟩) O TB HF HG' hc rfl rfl X Xhb).g)
 refine YF (TB.gl _ _ _ Xm6) λg1 g2 g3=>?_
 obtain ⟨g4,g5⟩:=TB.fn _ _ _ Xm6 rfl
 refine YF (WZ (k:=⟨F,G,Xr.get,842,Wd⟩) (YC (k:=⟨F,G,Xr.get,842,Wd⟩) (n:=n) O TB HF HG' ZR rfl rfl 40 scL [] L env X) pL.1.2.2.2.1 XfH) λi1 i2 i3=>?_
 have i1':SL C n L ⟨F,G,Xr.get,842,c⟩ Xcn (spliced (backTo pL.1.2.2.2.1 (starEach pL.2 env))):=λA g Ro Rq σ l s m v σ' T e Q E h=>i1 A g Ro Rq σ l s m v σ' T e Q E h
 exact XdL O rfl (XdE (Ki (k:=⟨F,G,Xr.get,842,c⟩) O hG (KN X.l O g1 g2 (X.kind XrH) g3) g4 g5 i2 i1' i3)) (YC (k:=⟨F,G,Xr.get,842,cal⟩) O TB HF HG' hc rfl rfl 40 scL [] L env X _ _ Xms) KQ (J6 rfl)
def Xf5(X:Mj)(r:Je):Je:=λf args s=>match f with
 | .fn a=>bc (Nat.beq a 1335) (Zw X r args s (some (fnL (Xf7 X r)))) .no
 |_=> .no
set_option tactic.hygienic true in
theorem Xf6(O:C.Ok)(Rx:C.cells=[])(Ry:C.cellv=[])(hK:C.K=KF P)(hX1:X.top.cls=Xr.get)(hX2:X.top.wheelC=842)(HF:Xm C.ρ X.F)(HG:XS C.ρ X.G){r:Je}(hr:XB C n r):UE C (n + 3) (Xf5 X r):=by
 intro A g f args σ v σ' Ro Rq s fv vs e R Rf Rs Q h
 induction f<;>try (exact Y3 e;done)
 rename_i a
 refine Rf.fnE ?_
 refine Ny (show bc (Nat.beq a 1335) (Zw X r args σ (some (fnL (Xf7 X r)))) .no= .ok v σ' from e) λc1 e=>?_
 have:=Qi c1
 subst this
 exact IT Rx O (XnP O Ry hK (n + 2) r (Xf7 X r) (hr.le (Nat.le_add_right _ _)) (Xf8 O Rx Ry hK hX1 hX2 HF HG hr)) hX1 hX2 HF HG g R Rs e Q h
def Xkw(X:Mj)(r:Je):Je:=λf args s=>match f with
 | .fn a=>bc (Nat.beq a 1318) (Zw X r args s (some Ws)) (r f args s)
 |_=>r f args s
theorem Xf9(O:C.Ok)(Rx:C.cells=[])(Ry:C.cellv=[])(hK:C.K=KF P)(hX1:X.top.cls=Xr.get)(hX2:X.top.wheelC=842)(HF:Xm C.ρ X.F)(HG:XS C.ρ X.G){r:Je}(hr:XB C n r):XB C (n + 1) (Xkw X r):=by
 intro A g f args σ v σ' Ro Rq s fv vs e R Rf Rs Q h
 have hr':XB C (n + 1) r:=hr.le (Nat.le_succ _)
 induction f with
 |fn a=>
  replace e:bc (Nat.beq a 1318) (Zw X r args σ (some Ws)) (r (.fn a) args σ)= .ok v σ':=e
  induction q:Nat.beq a 1318 with
  |true=>
   rw[q] at e
   have:=Qi q
   subst this
   refine Rf.fnE ?_
   exact Xfa O Rx Ry hK hX1 hX2 HF HG hr g R Rs e Q h
  |false=>
   rw[q] at e
   exact hr' A g _ _ _ _ _ _ _ _ _ _ e R Rf Rs Q h
 |_=>exact hr' A g _ _ _ _ _ _ _ _ _ _ e R Rf Rs Q h
def Bt:Int->Nat->Array UInt8->Array UInt8
 |_,0,b=>b
 |x,k + 1,b=>Bt (x + 1) k (b.push x.toNat.toUInt8)
theorem KS:typeLookup (.type "range") "__bytes__"=pure none:=by rw[typeLookup_type,QL];kernel_rfl
theorem KU:typeLookup (.type "range") "__index__"=pure none:=by rw[typeLookup_type,QL];kernel_rfl
theorem Nm:typeLookup (.type "range") "__buffer__"=pure none:=by rw[typeLookup_type,QL];kernel_rfl
theorem XlK:typeLookup (.type "range") "__len__"=pure (some (.builtin "range.__len__")):=by rw[typeLookup_type,QL];kernel_rfl
theorem XeV:splitId "range.__len__"=some ("range","__len__"):=by decide +kernel
theorem XlL:isSubtype (.type "range") (.type "range")=pure true:=by rw[isSubtype_type];kernel_rfl
section
variable {prog:Program}{w:World}
theorem XfX{S:Rn}(hh:A.handled=none)(hIS:I≠S):
  ∀(k:Nat)(x:Int)(b:Array UInt8)(s:Rk),(k=0∨(0<=x/\x + k<=256))->b.size + k<=60000->IsRangeIter s.heap I x k 1->s.heap.get? S=some {cls:= .type "bytearray",data:= .bytearray b}->
   (∀h' t k',(∀a o,a≠I->a≠S->s.heap.get? a=some o->h'.get? a=some o)->R (.ok (.ret (.bytes (Bt x k b) t))) {s with heap:=h',toks:=k'})->
   codeAny (model prog w) A (.builtin "bytes.__new__.loop" ⟨[.type "bytes",.ref I,.ref S],[]⟩) R s:=by
 intro ux
 induction ux with
 |zero=>
  intro x b s _ hz hit hS hR
  refine codeAny_builtin F.bm_entry_loop ?_
  rw[Around.under_plainId F.bm_plain_loop _]
  show wpAny _ A.in1 (pyNext (.ref I)>>=_) _ _ s
  refine Qg (wpAny_pyNext_range_end hh hit (Int.le_refl _) λh' he=>?_)
  have hS':h'.get? S=some {cls:= .type "bytearray",data:= .bytearray b}:=he S _ (Ne.symm hIS) hS
  refine Qg ?_
  unfold Builtin.Bytes.payload Builtin.Bytes.payload?
  refine Qg (Qg (wpAny_load hS' ?_))
  refine Qh (Qh ?_)
  refine Qg (wpAny_mkBytes ?_ (by unfold sizeLine;lia))
  show wpAny _ _ (if (Value.type "bytes" == Value.type "bytes")=true then _ else _) _ _ _
  refine bm_if_true (by decide) ?_
  first
   |exact Qh (hR h' _ _ λb o hb _ e=>he b o hb e)
   |exact Qg (Qh (Qh (hR h' _ _ λb o hb _ e=>he b o hb e)))
 |succ k ih=>
  intro x b s h01 hz hit hS hR
  obtain ⟨h0,h1⟩:0<=x/\x + ((k + 1:Nat):Int)<=256:=by lia
  refine codeAny_builtin F.bm_entry_loop ?_
  rw[Around.under_plainId F.bm_plain_loop _]
  show wpAny _ A.in1 (pyNext (.ref I)>>=_) _ _ s
  refine Qg (wpAny_pyNext_range_item hit (by lia) λh' hit' hs=>?_)
  have hS':h'.get? S=some {cls:= .type "bytearray",data:= .bytearray b}:=(hs.2 S (Ne.symm hIS)).trans hS
  refine Qg (QB (QF (rfl:asIndex (.int x s.toks)=pure x) ?_))
  refine Qg (wpAny_letGo ?_)
  refine bm_if_false (by simp only [Bool.or_eq_false_iff,decide_eq_false_iff_not];lia) ?_
  refine Qg ?_
  show wpAny _ _ (updateBytearray S (·.push x.toNat.toUInt8)) _ _ _
  unfold updateBytearray
  refine Qg (wpAny_load hS' ?_)
  show wpAny _ _ (update S (Obj.mapBytearray (·.push x.toNat.toUInt8))>>=λ_=>lookBehind S) _ _ _
  refine Qg (wpAny_update hS' ?_)
  have hS₂:(h'.update S (Obj.mapBytearray (·.push x.toNat.toUInt8))).get? S=some {cls:= .type "bytearray",data:= .bytearray (b.push x.toNat.toUInt8)}:=Heap.get?_update_self (Obj.mapBytearray (·.push x.toNat.toUInt8)) hS' rfl
  refine wpAny_lookBehind hS₂ ?_ ?_
  ·show (if (b.push x.toNat.toUInt8).size > sizeLine then some "bytearray:memory" else none)=none
   rw[if_neg]
   rw[Array.size_push]
   unfold sizeLine;lia
  ·have e1:((k + 1:Nat):Int) - 1=(k:Int):=by lia
   rw[e1] at hit'
   refine Qh ⟨plainId_quiet F.bm_plain_loop _,ih (x + 1) (b.push x.toNat.toUInt8) {s with heap:=h'.update S (Obj.mapBytearray (·.push x.toNat.toUInt8)),toks:=s.toks + 1} (.inr ⟨by lia,by lia⟩) (by rw[Array.size_push];lia) ?_ hS₂ λh3 t' k' hk3=>?_⟩
   ·exact (Heap.get?_update_other _ _ (Ne.symm hIS)).trans hit'
   ·exact hR h3 t' k' λa o haI haS e=>hk3 a o haI haS ((Heap.get?_update_other _ _ (Ne.symm haS)).trans (hs.extBut a o haI e))
theorem Xkr{r:Rn}{x:Int}{u v:Tok}(hh:A.handled=none)(hr:IsRange s.heap r x (x + n) 1 t u v)(hsm:Builtin.Range.small x (x + n) 1=true)(h01:n=0∨(0<=x/\x + n<=256))(hn:n<=60000)
  (hQ:∀h' t k,(∀b o,s.heap.get? b=some o->h'.get? b=some o)->Q (.bytes (Bt x n #[]) t) {s with heap:=h',toks:=k}):
  codeAny (model prog w) A (.call (.builtin "bytes.__new__") ⟨[.type "bytes",.ref r],[]⟩) (wants Q E) s:=by
 refine codeAny_of_tree ?_
 show wpAny _ A.in1 (do checkBuiltinCall "bytes.__new__" ⟨[.type "bytes",.ref r],[]⟩;again (.builtin "bytes.__new__" ⟨[.type "bytes",.ref r],[]⟩)) _ _ s
 refine Qg (QF (F.bm_newCall _) (Qh ⟨plainId_quiet F.bm_plain _,codeAny_builtin F.bm_entry ?_⟩))
 rw[Around.under_plainId F.bm_plain _]
 have hT:s.TypeIs (.ref r) "range":=⟨_,hr,rfl⟩
 unfold Builtin.«bytes.__new__»
 refine Qg (QF (a:=true) rfl ?_)
 refine bm_if_false rfl ?_
 refine Qg (QF F.bm_sub ?_)
 refine bm_if_false rfl ?_
 refine Qg (QF (F.bm_bind _) ?_)
 refine Qg (QF (a:=()) rfl ?_)
 refine Qg (QF (a:=()) rfl ?_)
 refine bm_if_false rfl ?_
 refine Qg (wpAny_specialOf hT KS ?_)
 refine Qg (Qg ?_)
 show wpAny _ _ (load r>>=_) _ _ _
 refine Qg (wpAny_load hr ?_)
 refine Qh (Qh ?_)
 refine bm_if_false rfl ?_
 refine Qg (wpAny_specialOf hT KU ?_)
 refine bm_if_true rfl ?_
 first
  |show wpAny _ _ (Builtin.Bytes.buffer? "bytes.__new__" (.ref r) true>>=_) _ _ _
  |(refine Qg ?_;show wpAny _ _ (Builtin.Bytes.buffer? "bytes.__new__" (.ref r) true>>=_) _ _ _)
 refine Qg ?_
 unfold Builtin.Bytes.buffer?
 refine Qg (wpAny_specialOf hT Nm ?_)
 refine Qg (wpAny_specialOf hT Nm ?_)
 refine Qh ?_
 refine Qg (wpAny_tryCatch (wpAny_pyIter_range hr hsm ?_))
 generalize hIo:({cls:= .type "range_iterator",data:= .fields #[rawInt x,rawInt (Builtin.Range.rangeSize x (x + n) 1),rawInt 1]}:Obj)=Io
 have hsz0:Builtin.Range.rangeSize x (x + n) 1=n:=by
  rw[rangeSize_one]
  split<;>lia
 have hr₁:IsRange (s.heap.push Io) r x (x + n) 1 t u v:=Qj _ hr
 have hT₁:({s with heap:=s.heap.push Io}:Rk).TypeIs (.ref r) "range":=⟨_,hr₁,rfl⟩
 refine Qg (QB ?_)
 unfold Builtin.Bytes.lengthHint
 refine Qg (wpAny_specialOf hT₁ XlK ?_)
 dsimp only
 rw[XeV]
 dsimp only
 refine Qg (wpAny_isInstance hT₁ XlL ?_)
 refine bm_if_false rfl ?_
 refine bm_if_false (by decide +kernel) ?_
 refine bm_if_true rfl ?_
 refine Qg (wpAny_rule ?_)
 refine Qg (wpAny_attempt (call_len_range hr₁ hsz0 (by lia) ?_))
 dsimp only
 refine Qg (QF (a:=some (n:Int)) rfl ?_)
 dsimp only
 refine bm_if_false (by unfold Builtin.Bytes.tooLong sizeLine;exact Qn (by lia)) ?_
 refine Qh ?_
 refine Qg ?_
 unfold Builtin.Bytes.newBytearray
 refine wpAny_newObj_type ?_ (Rg _)
 have hsz:(s.heap.push Io).objs.size=s.heap.objs.size + 1:=Heap.size_push _ _
 have hI:IsRangeIter ((s.heap.push Io).push {cls:= .type "bytearray",data:= .bytearray #[]}) s.heap.objs.size x n 1:=by
  rw[←hsz0]
  refine Qj _ (QA _ ?_) |>.trans ?_
  all_goals first |rfl |(rw[←hIo];rfl) |(rw[←hIo])
 have main:=XfX (prog:=prog) (w:=w) (A:=A) (R:=wants Q E) (I:=s.heap.objs.size) (S:=(s.heap.push Io).objs.size) hh (by rw[hsz];exact Qz (QO _))
  n x #[] {s with heap:=(s.heap.push Io).push {cls:= .type "bytearray",data:= .bytearray #[]},toks:=s.toks + 1 + 1} h01 (by simp only [Qx,List.length_nil];lia) hI (QA _ rfl)
  λh' t k hk=>hQ h' t k λb o e=>hk b o (Qz (Qu e)) (by rw[hsz];exact Qz (Nat.lt_succ_of_lt (Qu e))) (Qj _ (Qj _ e))
 first
  |exact Qh ⟨plainId_quiet F.bm_plain_loop _,main⟩
  |exact Qh (Qh ⟨plainId_quiet F.bm_plain_loop _,main⟩)
theorem NE{r:Rn}{x:Int}{u v:Tok}(hh:A.handled=none)(hr:IsRange s.heap r x (x + n) 1 t u v)(hsm:Builtin.Range.small x (x + n) 1=true)(h01:n=0∨(0<=x/\x + n<=256))(hn:n<=60000)
  (hQ:∀h' t k,(∀b o,s.heap.get? b=some o->h'.get? b=some o)->Q (.bytes (Bt x n #[]) t) {s with heap:=h',toks:=k}):wpAny (model prog w) A (call (.type "bytes") [.ref r]) Q E s:=by
 refine callType_codes (Q₁:=λobj s₁=>s₁.TypeIs obj "bytes"/\Q obj s₁) F.bm_called (F.bm_typeCall _) F.entry_object_init
  (Xkr hh hr hsm h01 hn λh' t k hk=>⟨PySem.W.typeIs_bytes _ _ _,hQ h' t k hk⟩) λobj s₁ h₁=>?_
 exact ⟨h₁.1,F.args_object_init_2 obj _,object_init_meets F.bm_called.init.lookup F.bm_called.made (by decide) prog w A.in1 _ s₁ ⟨h₁.1,rfl,h₁.2⟩⟩
end
theorem M7:∀{f:Nat}{zl:LI}{z:Int}{b:List Nat},Ui (XI zl f)=some b->zl.val ρ=z->
  (f=0∨(0<=z/\z + f<=256))/\(b.all λn=>Nat.ble n 255)=true/\∀acc:Array UInt8,Bt z f acc=acc++(b.map Nat.toUInt8).toArray:=by
 intro f
 induction f with
 |zero=>
  intro zl z b e hz
  obtain rfl:=QV e
  exact ⟨.inl rfl,rfl,λacc=>(Array.append_empty (xs:=acc)).symm⟩
 |succ f ih=>
  intro zl z b e hz
  refine Xjx (show Xk4 zl.lit? _=some b from e) λk q q1 e=>?_
  refine Z8 e λl q2 e3=>?_
  obtain rfl:=QV e3
  have hv:z=(k:Int):=hz.symm.trans (XH q)
  refine YF (ih (z:=z + 1) q2 (by rw[ZS,Xs,hz])) λi1 i2 i3=>?_
  have hk:=Qv q1
  refine ⟨.inr ?_,?_,λacc=>?_⟩
  ·clear i3 i2 ih;lia
  ·rw[List.all_cons,q1,i2];rfl
  ·show Bt (z + 1) f (acc.push z.toNat.toUInt8)=_
   rw[i3,hv]
   simp
theorem KM(O:C.Ok)(H:Xm C.ρ k.F)(hE:ZC env L){p3 p4:Pos}{y:ML}(e1:nsIn C.K mainGlobals ("bytes":Str)=some none)(e2:nsIn C.K mainGlobals ("range":Str)=some none)
  (hl1:env.kindOf ("bytes":Str)=some .globalImplicit)(hl2:env.kindOf ("range":Str)=some .globalImplicit)(hs:Ys args=true)(hne:args≠[])
  (hy:SL C n L k y (spliced (backTo p3 (starEach args env)))):SE C n L k (JB y) (eval (.Call (.Name ("bytes":Str) p1) [.Call (.Name ("range":Str) p2) args [] p3] [] p4) env):=by
 intro A g Ro Rq σ l s m v σ' T e' Q E h
 obtain ⟨us,σ1,q1,q2⟩:=Yj.of_to e'
 obtain ⟨its,q3,q4⟩:=ZF (show oc (Yo k.F us) .no (λits=>oc (Ui its) .no λb=>Mv b σ1)= .ok v σ' from q2) nofun
 obtain ⟨b,q5,q6⟩:=ZF q4 nofun
 obtain ⟨q7,q8⟩:=YR (show bc (XU b) (.ok (.bytes b) σ1) .no=Xu.ok v σ' from q6) nofun
 replace h:=h.eq q8
 refine Call_ (JC hE T.fr O.inK O.top e1 (v:= .type "bytes") (by kernel_rfl) (by decide) ?_ hl1 (by decide))
 refine Zd (bv:= .type "bytes") rfl rfl ?_
 rw[XX rfl]
 refine spliced_cons (Call_ (JC hE T.fr O.inK O.top e2 (v:= .type "range") (by kernel_rfl) (by decide) ?_ hl2 (by decide)))
 induction args with
 |nil=>exact absurd rfl hne
 |cons a r=>
  refine Zd (bv:= .type "range") rfl hs (hy A g _ _ _ _ _ _ _ _ T q1 _ _ λh1 t1 Ru Rv m1 v1 G1 T1 R1=>?_)
  refine Ul (s:={s with heap:=h1,toks:=t1}) H T1 R1 q3 λh2 t2 ra z zl f u1 u2 u3 hk2 hr hz hits hf hsm=>?_
  subst hits
  obtain ⟨r1,r2,r3⟩:=M7 q5 hz
  obtain ⟨G2,T2⟩:=T1.kept hk2
  refine args_nil ?_
  refine NE (s:={s with heap:=h2,toks:=t2}) g.1 hr hsm r1 hf λh3 t3 k3 hk3=>?_
  obtain ⟨G3,T3⟩:=T2.kept hk3
  have hv:Bt z f #[]=(b.map Nat.toUInt8).toArray:=by rw[r3];simp
  rw[hv]
  exact h h3 k3 Ru Rv m1 _ ((G1.trans G2).trans G3) T3 (.bytes _ _ r2)
def bW:List Stmt:=(Yk 104).2.1
def Wm:Scope:=(Yk 104).2.2
def U4:Str:=QW "_law_tries_right"
def Xaq:Str:=QW "_law_late_right"
def Dg:Str:=QW "_law_next_right"
def Gn:Str:=QW "_law_probes_right"
def Xpj:Str:=QW "_law_pool"
def XhA:Str:=QW "source"
def Gk:Str:=QW "octets"
def JE:Str:=QW "script"
structure IfP where
 pa:Pos
 aa:List Expr
 qa:Pos
 na:Pos
 pb:Pos
 ab:List Expr
 qb:Pos
 nb:Pos
 po:Pos
 body:List Stmt
 pi:Pos
noncomputable def IfP.st(i:IfP)(x y:Str):Stmt:= .If (.BoolOp .Or [.UnaryOp .Not (.Call (.Name x i.pa) i.aa [] i.qa) i.na,.UnaryOp .Not (.Call (.Name y i.pb) i.ab [] i.qb) i.nb] i.po) i.body [] i.pi
noncomputable def ifP(s:Stmt):IfP:=⟨UC s [0,0,0,0],(O2 (eAt s [0,0,0])).tail,UC s [0,0,0],UC s [0,0],UC s [0,1,0,0],(O2 (eAt s [0,1,0])).tail,UC s [0,1,0],UC s [0,1],UC s [0],XeZ s,s.pos⟩
def i2:IfP:=ifP (N9 bW 1)
def i6:IfP:=ifP (N9 bW 5)
structure BrP where
 p1:Pos
 p2:Pos
 aa:List Expr
 p3:Pos
 p4:Pos
noncomputable def BrP.eX(b:BrP):Expr:= .Call (.Name ("bytes":Str) b.p1) [.Call (.Name ("range":Str) b.p2) b.aa [] b.p3] [] b.p4
noncomputable def brP(s:Stmt)(p:List Nat):BrP:=⟨UC s (p++[0]),UC s (p++[1,0]),(O2 (eAt s (p++[1]))).tail,UC s (p++[1]),UC s p⟩
def s5q:Pos×BrP×Pos:=(UC (N9 bW 4) [1],brP (N9 bW 4) [0],(N9 bW 4).pos)
def Mh:Pos×Expr×Expr×Expr×BrP×Pos×Pos×Pos:=(UC (N9 bW 6) [0,0],eAt (N9 bW 6) [0,1],eAt (N9 bW 6) [0,2],eAt (N9 bW 6) [0,3,0],brP (N9 bW 6) [0,3,1],UC (N9 bW 6) [0,3],UC (N9 bW 6) [0],(N9 bW 6).pos)
def s3q:Pos×Pos×List Expr×Pos×Pos:=(UC (N9 bW 2) [1],UC (N9 bW 2) [0,0],(O2 (eAt (N9 bW 2) [0])).tail,UC (N9 bW 2) [0],(N9 bW 2).pos)
def S3:Stmt:= .Assign [.Name XhA s3q.1] (.Call (.Name Xpj s3q.2.1) s3q.2.2.1 [] s3q.2.2.2.1) s3q.2.2.2.2
def S5:Stmt:= .Assign [.Name Gk s5q.1] s5q.2.1.eX s5q.2.2
def S7:Stmt:= .Return (some (.Call (.Name Gn Mh.1) [Mh.2.1,Mh.2.2.1,.BinOp Mh.2.2.2.1 .Add Mh.2.2.2.2.1.eX Mh.2.2.2.2.2.1] [] Mh.2.2.2.2.2.2.1)) Mh.2.2.2.2.2.2.2
theorem Xnf:bW=bW.take 1++(i2.st U4 Xaq::S3::((bW.drop 3).take 1++(S5::i6.st U4 Dg::S7::[]))):=by kernel_rfl
def s1M:MS:=(Xd (Xz 123 (Xk (.cls 863) (Xa (Xf 256) (Xa (Xf 4) (Xa (Xf 40) (Xa (Xf 16) (Xa (Xf 6) (Xa (Xf 4) (Xa (Xf 24) (Xa (Xf 2) (Xa (Xf 2) (Xa (Xf 12) Xe)))))))))))) Xg)
def XaI:M:=(Xk (.fn 1318) (Xa (Yx (Xa (Xf 0) (Xa (Xf 1) Xe))) (Xa (Xb 123) (Xa (Jn [97,98,99,100,101,102,103,104,105,106,107,108]) (Xa (XE false) Xe)))))
def s3M:MS:=(Xz 171 (Xk (.fn 1273) (Xa (Xb 166) (Xa (Xf 0) Xe))))
def s4M:MS:=(Xd (Xz 123 (Xk (.cls 863) (Xa (Xf 256) (Xa (Xf 4) (Xa (Xf 40) (Xa (Xf 16) (Xa (Xo 0 (Xf 2) (Xk (.fn 1280) (Xa (Xb 171) (Xa (Xf 8) Xe)))) (Xa (Xo 0 (Xf 2) (Xk (.fn 1280) (Xa (Xb 171) (Xa (Xf 3) Xe)))) (Xa (Xo 0 (Xf 9) (Xk (.fn 1280) (Xa (Xb 171) (Xa (Xf 30) Xe)))) (Xa (Xo 0 (Xf 1) (Xk (.fn 1280) (Xa (Xb 171) (Xa (Xf 3) Xe)))) (Xa (Xf 2) (Xa (Xf 12) Xe)))))))))))) Xg)
def XhS:ML:=(Xa (Xf 65) (Xa (Xo 0 (Xf 66) (Xk (.fn 1280) (Xa (Xb 171) (Xa (Xf 30) Xe)))) Xe))
def s5M:MS:=Xz 49 (JB XhS)
def Gu:M:=(Xk (.fn 1318) (Xa (Xb 171) (Xa (Xb 123) (Xa (Xb 49) (Xa (YQ 0 (Xk (.fn 1280) (Xa (Xb 171) (Xa (Xf 2) Xe))) (Xf 0)) Xe)))))
def Bf:M:=(Xk (.fn 1325) (Xa (Xb 123) (Xa (Xb 49) Xe)))
def XhT:ML:=(Xa (Xf 40) (Xa (Xo 0 (Xf 40) (Xk (.fn 1280) (Xa (Xb 171) (Xa (Xf 7) Xe)))) Xe))
def s7M:MS:=Xq (Xk (.fn 1330) (Xa (Xb 171) (Xa (Xb 123) (Xa (Xo 0 (Jn [120,121,122]) (JB XhT)) Xe))))
theorem XvY:XY Z6 [] Wm [] (bW.take 1)=some s1M:=by kernel_rfl
theorem XvZ:XY Z6 [] Wm [] [S3]=some (Xd s3M Xg):=by kernel_rfl
theorem Xv0:XY Z6 [] Wm [] ((bW.drop 3).take 1)=some s4M:=by kernel_rfl
theorem Xe8:Yi Z6 [] 40 Wm [] (.Call (.Name U4 i2.pa) i2.aa [] i2.qa)=some XaI:=by kernel_rfl
theorem Xe9:Yi Z6 [] 40 Wm [] (.Call (.Name U4 i6.pa) i6.aa [] i6.qa)=some Gu:=by kernel_rfl
theorem Xg3:Yi Z6 [] 40 Wm [] (.Call (.Name Dg i6.pb) i6.ab [] i6.qb)=some Bf:=by kernel_rfl
theorem Xd0:i2.ab=[]:=by kernel_rfl
theorem XkW:XC Wm.names Xaq=some .globalImplicit:=by kernel_rfl
theorem Xd1:XC Z6.gt Xaq=some (.fn 1335,.ref 1335):=by kernel_rfl
theorem XfD:cL (Yi Z6 [] 40 Wm []) s5q.2.1.aa=some XhS:=by kernel_rfl
theorem XfF:cL (Yi Z6 [] 40 Wm []) Mh.2.2.2.2.1.aa=some XhT:=by kernel_rfl
theorem XfE:Wc s5q.2.1.aa=true:=by kernel_rfl
theorem XfG:Wc Mh.2.2.2.2.1.aa=true:=by kernel_rfl
theorem XrI:Yi Z6 [] 40 Wm [] Mh.2.1=some (Xb 171):=by kernel_rfl
theorem XrK:Yi Z6 [] 40 Wm [] Mh.2.2.1=some (Xb 123):=by kernel_rfl
theorem XrL:Yi Z6 [] 40 Wm [] Mh.2.2.2.1=some (Jn [120,121,122]):=by kernel_rfl
theorem Xp3:(Y9 Mh.2.1&&Y9 Mh.2.2.1)=true:=by kernel_rfl
theorem XeD:XC Wm.names Gn=some .globalImplicit:=by kernel_rfl
theorem KL:XC Z6.gt Gn=some (.fn 1330,.ref 1330):=by kernel_rfl
theorem Xep:XC Wm.names Gk=some .local:=by kernel_rfl
theorem XcO:XC Wm.names ("bytes":Str)=some .globalImplicit:=by kernel_rfl
theorem XeQ:XC Wm.names ("range":Str)=some .globalImplicit:=by kernel_rfl
theorem Mw(P:Rj):nsIn (KF P) mainGlobals ("bytes":Str)=some none:=by kernel_rfl
theorem XbM:Zc[49]?=some Gk:=by kernel_rfl
def XaN(C:Cx)(s:Rk)(f:Flow)(s':Rk):Prop:=f= .ret (.bool true)/\s'.gens=s.gens/\s'.os=s.os/\∀b o,C.H0.get? b=some o->s'.heap.get? b=some o
theorem XhX(O:C.Ok)(hK:C.K=KF P)(HF:Xm C.ρ F)(HG:XS C.ρ G)(hc:XB C n cal)(X:Yu C Wm [] [] L env)(b:BrP){y:ML}(hy:cL (Yi Z6 [] 40 Wm []) b.aa=some y)(hn:Wc b.aa=true):
  SE C n L ⟨F,G,Xr.get,842,cal⟩ (JB y) (eval b.eX env):=by
 have TB:Ua C Z6:=JO hK
 refine YF (WZ (k:=⟨F,G,Xr.get,842,cal⟩) (YC (k:=⟨F,G,Xr.get,842,cal⟩) (n:=n) O TB HF HG hc rfl rfl 40 Wm [] L env X) b.p3 hy) λi1 i2 i3=>?_
 exact KM O HF X.l (by rw[hK];exact Mw P) TB.rng (X.kind XcO) (X.kind XeQ) i2 (Wz hn) i1
theorem XpX(O:C.Ok)(hK:C.K=KF P)(Ry:C.cellv=[])(HF:Xm C.ρ F)(HG:XS C.ρ G)(hc:XB C n cal)(X:Yu C Wm [] [] L env):SS C n L ⟨F,G,Xr.get,842,cal⟩ s5M (exec S5 env):=
 XeJ X.l (XhX O hK HF HG hc X s5q.2.1 XfD XfE) XbM (by rw[Ry];rfl) (X.kind Xep) rfl
theorem XpY(O:C.Ok)(hK:C.K=KF P)(Ry:C.cellv=[])(HF:Xm C.ρ F)(HG:XS C.ρ G)(hc:XB C n cal)(X:Yu C Wm [] [] L env):SS C n L ⟨F,G,Xr.get,842,cal⟩ s7M (exec S7 env):=by
 have TB:Ua C Z6:=JO hK
 have ce:=YC (k:=⟨F,G,Xr.get,842,cal⟩) (n:=n) O TB HF HG hc rfl rfl 40 Wm [] L env X
 refine YF (TB.gl _ _ _ KL) λg1 g2 g3=>?_
 obtain ⟨g4,g5⟩:=TB.fn _ _ _ KL rfl
 refine b2 Xp3 λn1 n2=>?_
 refine XjR (XjO O hc (KN X.l O g1 g2 (X.kind XeD) g3) g4 g5 ?_ ?_ nofun)
 ·unfold Ys
  rw[List.all_cons,List.all_cons,List.all_cons,n1,n2]
  rfl
 ·refine XaA (ce _ _ XrI) (XaA (ce _ _ XrK) (XaA (Xpv (op:= .Add) HG XcW rfl (ce _ _ XrL) (XhX O hK HF HG hc X Mh.2.2.2.2.1 XfF XfG)) Xlx (XX rfl)) (XX n2)) (XX n1)
theorem XkQ{x y:Str}{i:IfP}{k':K}{xa ya:M}(hx:SE C n L k xa (eval (.Call (.Name x i.pa) i.aa [] i.qa) env))(hy:SE C n L k' ya (eval (.Call (.Name y i.pb) i.ab [] i.qb) env))(g:YK A n){Ro Rq σ l s m σ'}(T:At C L Ro Rq σ l s.heap m)
  (e:xa k l σ= .ok (.bool true) σ'){Q:Flow->Rk->Prop}
  (h:∀(h1:Heap)(t1:Nat) Ru Rv m1,At C L Ru Rv σ' l h1 m1->∃Rz RA σ2 l2 σ3,At C L Rz RA σ2 l2 h1 m1/\ya k' l2 σ2= .ok (.bool true) σ3/\∀(h3:Heap)(t3:Nat) RB RC m3,At C L RB RC σ3 l2 h3 m3->Q .next {s with heap:=h3,toks:=t3}):
  wpAny (model C.prog C.w) A (exec (i.st x y) env) Q E s:=by
 have tr:∀{Ro v},VR C.ρ Ro (.bool true) v->v= .bool true:=λr=>by refine r.boolE ?_;rfl
 refine wpAny_If (isTrue_or (isTrue_not (isTrue_plain (hx A g _ _ _ _ _ _ _ _ T e _ _ λh1 t1 Ru Rv m1 v1 G1 T1 R1=>?_))))
 rw[tr R1]
 refine wpAny_truthy_bool ?_
 refine x53 (h h1 t1 Ru Rv m1 T1) λRz RA σ2 l2 σ3 T2 e2 hq=>?_
 refine isTrue_or (isTrue_not (isTrue_plain (hy A g _ _ _ _ {s with heap:=h1,toks:=t1} _ _ _ T2 e2 _ _ λh3 t3 RB RC m3 v3 G3 T3 R3=>?_)))
 rw[tr R3]
 refine wpAny_truthy_bool ?_
 refine isTrue_or_nil ?_
 exact wpAny_execs_nil (hq h3 t3 RB RC m3 T3)
theorem XgG{x y:Str}{i:IfP}{k':K}{xa ya:M}(hx:SE C n L k xa (eval (.Call (.Name x i.pa) i.aa [] i.qa) env))(hy:SEG C n L k' ya (eval (.Call (.Name y i.pb) i.ab [] i.qb) env))(g:YK A n){Ro Rq σ l s m σ'}(T:At C L Ro Rq σ l s.heap m)
  (e:xa k l σ= .ok (.bool true) σ'){Q:Flow->Rk->Prop}
  (h:∀(h1:Heap)(t1:Nat) Ru Rv m1,At C L Ru Rv σ' l h1 m1->∃Rz RA σ2 l2 σ3,At C L Rz RA σ2 l2 h1 m1/\ya k' l2 σ2= .ok (.bool true) σ3/\∀(h3:Heap)(t3:Nat) RB RC m3,At C L RB RC σ3 l2 h3 m3->Q .next {s with heap:=h3,toks:=t3}):
  Za (model C.prog C.w) A (exec (i.st x y) env) Q E s:=by
 have tr:∀{Ro v},VR C.ρ Ro (.bool true) v->v= .bool true:=λr=>by refine r.boolE ?_;rfl
 refine Xr1 (Xn2 (Xjn (Yr (isTrue_plain (hx A g _ _ _ _ _ _ _ _ T e _ _ λh1 t1 Ru Rv m1 v1 G1 T1 R1=>?_)))))
 rw[tr R1]
 refine wpAny_truthy_bool ?_
 refine x53 (h h1 t1 Ru Rv m1 T1) λRz RA σ2 l2 σ3 T2 e2 hq=>?_
 refine Xn2 (Xjn (XdG (hy A g _ _ _ _ {s with heap:=h1,toks:=t1} _ _ _ T2 e2 _ _ λh3 t3 RB RC m3 v3 G3 T3 R3=>?_) rfl))
 rw[tr R3]
 refine wpAny_truthy_bool ?_
 refine Yr (isTrue_or_nil ?_)
 exact Yr (wpAny_execs_nil (hq h3 t3 RB RC m3 T3))
def bP:List Stmt:=(Yk 93).2.1
def KV:Scope:=(Yk 93).2.2
def kN:Str:=QW "k"
def B5:Str:=QW "cell"
structure P2 where
 p1:Pos
 p2:Pos
 p3:Pos
 p4:Pos
 p5:Pos
 p6:Pos
 p7:Pos
 p8:Pos
 p9:Pos
 p10:Pos
 p11:Pos
def q2s:Stmt:=N9 bP 1
def q2b:Stmt:=N9 (XeZ q2s) 0
def q2:P2:=⟨UC q2s [0,0],UC q2s [0,1,0],UC q2s [0,1,1],UC q2s [0,1],UC q2s [0],UC q2b [1],UC q2b [0,0],UC q2b [0,1],UC q2b [0],q2b.pos,q2s.pos⟩
def SP2:Stmt:= .If (.Compare (.Name kN q2.p1) [.Lt] [.Call (.Name ("len":Str) q2.p2) [.Name JE q2.p3] [] q2.p4] q2.p5) [.Assign [.Name B5 q2.p6] (.Subscript (.Name JE q2.p7) (.Name kN q2.p8) q2.p9) q2.p10] [] q2.p11
theorem Xne:bP=bP.take 1++SP2::bP.drop 2:=by kernel_rfl
def XbR:MS:=Xd (Xz 170 (Xf 0)) Xg
def Wk:MS:=(Xd (Xz 169 (YI 2 (Xa (YI 3 (Xa (Xb 170) Xe)) (Xa (YI 3 (Xa (Xo 1 (Xd9 (Xf 1)) (Xb 170)) Xe)) Xe))))
 (Xd (Xz 168 (Xo 4 (YI 3 (Xa (Xo 2 (Xo 0 (Xo 0 (Xo 0 (Xo 4 (YI 3 (Xa (Xb 169) Xe)) (Xf 2147483629)) (Xo 2 (Xo 2 (Xf 7919) (Xb 167)) (Xb 167))) (Xo 2 (Xf 31) (Xb 167))) (Xf 17)) (Xf 48271)) Xe)) (Xf 2147483647)))
 (Xd (Xq (Yx (Xa (Xo 2 (Xb 169) (YI 3 (Xa (YQ 5 (Xb 169) (Xo 5 (Xf 10) (Xf 18))) Xe))) (Xa (Xb 168) Xe)))) Xg)))
theorem Xlr:XY Z6 [] KV [] (bP.take 1)=some XbR:=by kernel_rfl
theorem Xhc:XY Z6 [] KV [] (bP.drop 2)=some Wk:=by kernel_rfl
theorem k_c:Yi Z6 [] 40 KV [] (.Name kN q2.p1)=some (Xb 167):=by kernel_rfl
theorem Xsf:Yi Z6 [] 40 KV [] (.Name kN q2.p8)=some (Xb 167):=by kernel_rfl
theorem Xv1:Yi Z6 [] 40 KV [] (.Name JE q2.p3)=some (Xb 166):=by kernel_rfl
theorem XpZ:Yi Z6 [] 40 KV [] (.Name JE q2.p7)=some (Xb 166):=by kernel_rfl
theorem Xk1:XC KV.names ("len":Str)=some .globalImplicit:=by kernel_rfl
theorem Xga:XC KV.names B5=some .local:=by kernel_rfl
theorem Xgb:Zc[170]?=some B5:=by kernel_rfl
theorem Xd4(P:Rj):nsIn (KF P) mainGlobals ("len":Str)=some none:=by kernel_rfl
def XgK(sa:Nat)(v:Option V)(x y:Xu):Xu:=oc v y λu=>aK u y λa=> @ite Xu (a=sa) (Nat.decEq a sa) x y
def Xd8(sa:Nat)(z:LI):M:=λ_ l s=>XgK sa (Xh l 166) (.ok (.int z) s) .no
def D8(sa:Nat)(c:LI):M:=λ_ l s=>XgK sa (Xh l 166) (oc (Xh l 167) .no λu=>iK u .no λi=>oc i.lit? .no λj=>bc (zz j) (.ok (.int c) s) .no) .no
def Xay(a:M)(b:MS):MS:=Xd XbR (Xd (Yn (Xp 2 (Xb 167) a) b Xg) Wk)
def XeB(sa:Nat)(z c:LI):MS:=Xay (Xd8 sa z) (Xd (Xz 170 (D8 sa c)) Xg)
def Bn(sa:Nat)(z:LI):MS:=Xay (Xd8 sa z) Z4
set_option tactic.hygienic true in
theorem Xao{v:Option V}{x:Xu}{s:St}(h:XgK sa v x .no= .ok u s):v=some (.fn sa)/\x= .ok u s:=by
 refine WA h λw e1 h=>aKE h nR λa e2 h=>?_
 by_cases e:a=sa
 ·rw[if_pos e] at h;exact ⟨by rw[e1,e2,e],h⟩
 ·rw[if_neg e] at h;exact Y3 h
theorem D5{x y:Xu}:XgK sa (some (.fn sa)) x y=x:=if_pos rfl
theorem Xqj{j:Int}(h:zz j=true):j=0:=by
 induction j with
 |ofNat m=>exact congrArg Int.ofNat (Qi h)
 |negSucc m=>injection h
theorem YD{M:Model}{pre post:List Stmt}{Q:Flow->Rk->Prop}(h:wpAny M A (execs pre env) (λf s'=>match f with | .next=>wpAny M A (execs post env) Q E s' |f=>Q f s') E s):
  wpAny M A (execs (pre++post) env) Q E s:=λΓ p hΓ=>by
 refine Uw (Sem.wp_mono M Γ _ (λf p' s' h'=>?_) (λ_ _ _ h'=>h') p s (h Γ p hΓ))
 induction f with
 |next=>exact h' Γ p' hΓ
 |_=>exact h'
section
variable {sa:Rn}{vals:List Rm}
theorem XdX{items:Array Rm}(x:h.IsList a items)(k:∀b o,h.get? b=some o->h'.get? b=some o):h'.IsList a items:=let ⟨o,ho,r⟩:=x;⟨o,k a o ho,r⟩
theorem Xar(O:C.Ok)(hK:C.K=KF P)(HF:Xm C.ρ F)(HG:XS C.ρ G)(hc:XB C n cal)(X:Yu C KV [] [] L env)(hsa:C.H0.IsList sa vals.toArray)(hv:vals.length<=60000)(hz:z.val C.ρ=vals.length):
  SE C n L ⟨F,G,Xr.get,842,cal⟩ (Xd8 sa z) (eval (.Call (.Name ("len":Str) q2.p2) [.Name JE q2.p3] [] q2.p4) env):=by
 intro A g Ro Rq σ l s m v σ' T e' Q E h
 obtain ⟨e1,e2⟩:=Xao e'
 replace h:=h.eq e2
 have TB:Ua C Z6:=JO hK
 have hs:=YC (k:=⟨F,G,Xr.get,842,cal⟩) (n:=n) O TB HF HG hc rfl rfl 40 KV [] L env X _ _ Xv1
 refine Call_ (JC X.l T.fr O.inK O.top (by rw[hK];exact Xd4 P) (v:= .builtin "len") (by kernel_rfl) (by decide) ?_ (X.kind Xk1) (by decide))
 refine Zd (bv:= .builtin "len") rfl rfl ?_
 rw[XX rfl]
 have e3:Xb 166 ⟨F,G,Xr.get,842,cal⟩ l σ= .ok (.fn sa) σ:=by
  show YS (Xh l 166) σ=_
  rw[e1]
 refine spliced_cons (hs A g _ _ _ _ _ _ _ _ T e3 _ _ λh1 t1 Ru Rv m1 v1 G1 T1 R1=>?_)
 refine R1.fnE ?_
 refine args_nil ?_
 refine call_len_list (items:=vals.toArray) (XdX hsa T1.rp.keep) (by rw[Qx];lia) ?_
 exact h h1 _ Ru Rv m1 _ G1 T1 (.int _ _ _ (by rw[Qx];exact hz))
set_option tactic.hygienic true in
theorem XdW(O:C.Ok)(hK:C.K=KF P)(HF:Xm C.ρ F)(HG:XS C.ρ G)(hc:XB C n cal)(X:Yu C KV [] [] L env)(hsa:C.H0.IsList sa vals.toArray){c:LI}{tc:Tok}(hv:vals[0]?=some (.int (c.val C.ρ) tc)):
  SE C n L ⟨F,G,Xr.get,842,cal⟩ (D8 sa c) (eval (.Subscript (.Name JE q2.p7) (.Name kN q2.p8) q2.p9) env):=by
 intro A g Ro Rq σ l s m v σ' T e' Q E h
 obtain ⟨e1,e2⟩:=Xao e'
 have TB:Ua C Z6:=JO hK
 have hs:=YC (k:=⟨F,G,Xr.get,842,cal⟩) (n:=n) O TB HF HG hc rfl rfl 40 KV [] L env X _ _ XpZ
 have hk:=YC (k:=⟨F,G,Xr.get,842,cal⟩) (n:=n) O TB HF HG hc rfl rfl 40 KV [] L env X _ _ Xsf
 refine WA e2 λu hi e2=>iKE e2 nR λi e9 e2=>?_
 rw[e9] at hi
 ·refine YB (ZF e2 nofun) λj e4 e5=>?_
  obtain ⟨e6,e7⟩:=YR e5 nofun
  replace h:=h.eq e7
  have hj:=Xqj e6
  subst hj
  have e3:Xb 166 ⟨F,G,Xr.get,842,cal⟩ l σ= .ok (.fn sa) σ:=by
   show YS (Xh l 166) σ=_
   rw[e1]
  have e8:Xb 167 ⟨F,G,Xr.get,842,cal⟩ l σ= .ok (.int i) σ:=by
   show YS (Xh l 167) σ=_
   rw[hi]
  refine Subscript_ (hs A g _ _ _ _ _ _ _ _ T e3 _ _ λh1 t1 Ru Rv m1 v1 G1 T1 R1=>?_)
  refine R1.fnE ?_
  refine hk A g _ _ _ _ {s with heap:=h1,toks:=t1} _ _ _ T1 e8 _ _ λh2 t2 Rz RA m2 v2 G2 T2 R2=>?_
  refine R2.intF λz t hz=>?_
  have hz0:z=0:=by rw[←hz,XH e4]
  subst hz0
  have I:h2.IsList sa vals.toArray:=XdX hsa T2.rp.keep
  have hlt:=(Qa hv).1
  refine IK (s:={s with heap:=h2,toks:=t2}) rfl I.typeIs slot_list_getitem.lookup (wpAny_getItem_list (s:={s with heap:=h2,toks:=t2}) I (Int.le_refl _) (by decide) (by simpa using hv) ?_)
  exact h h2 t2 Rz RA m2 _ (G1.trans G2) T2 (.int _ _ _ rfl)
theorem KK(O:C.Ok)(hK:C.K=KF P)(HF:Xm C.ρ F)(HG:XS C.ρ G)(hc:XB C n cal)(X:Yu C KV [] [] L env)(Ry:C.cellv=[]){a:M}{b:MS}(ha:SE C n L ⟨F,G,Xr.get,842,cal⟩ a (eval (.Call (.Name ("len":Str) q2.p2) [.Name JE q2.p3] [] q2.p4) env))
  (hb:SS C n L ⟨F,G,Xr.get,842,cal⟩ b (execs [.Assign [.Name B5 q2.p6] (.Subscript (.Name JE q2.p7) (.Name kN q2.p8) q2.p9) q2.p10] env)):SS C n L ⟨F,G,Xr.get,842,cal⟩ (Xay a b) (execs bP env):=by
 have TB:Ua C Z6:=JO hK
 rw[Xne]
 have ce:=YC (k:=⟨F,G,Xr.get,842,cal⟩) (n:=n) O TB HF HG hc rfl rfl 40 KV [] L env X
 have h1:=X6 (k:=⟨F,G,Xr.get,842,cal⟩) O TB HF HG hc rfl rfl X Xlr
 have h3:=X6 (k:=⟨F,G,Xr.get,842,cal⟩) O TB HF HG hc rfl rfl X Xhc
 have h2:SS C n L ⟨F,G,Xr.get,842,cal⟩ (Yn (Xp 2 (Xb 167) a) b Xg) (exec SP2 env):=XpB (XeM (op:= .Lt) HF (Xal HF) rfl (ce _ _ k_c) ha rfl) hb XeK
 intro A g Ro Rq σ l s m out T e hn Q E h
 replace e:(XbR ⟨F,G,Xr.get,842,cal⟩ l σ).to (Xd (Yn (Xp 2 (Xb 167) a) b Xg) Wk ⟨F,G,Xr.get,842,cal⟩)=out:=e
 induction q:XbR ⟨F,G,Xr.get,842,cal⟩ l σ with
 |no=>rw[q] at e;exact absurd e.symm hn
 |ret v σ1=>injection q
 |next l1 σ1=>
  rw[q] at e
  refine YD ?_
  exact h1 A g _ _ _ _ _ _ _ T q nofun _ _ λh1' t1 Ru Rv m1 G1 T1=>XeL h2 h3 A g _ _ _ _ {s with heap:=h1',toks:=t1} _ _ T1 e hn _ _ (h.step G1)
end
theorem Xdz(O:C.Ok)(Ry:C.cellv=[]){f:Rn}{oc:Rm}{sl}{P:List Str}
  (h1:C.K.lookup f=some ⟨oc,od,.func (fnOf name qual params body scope dV kV doc pm an cdv ct),sl⟩)(h2:codeIn C.K cdv qual=true)(h3:KE scope=true)
  (hP:P.map Nf=fc.params.map some)(hN:Z2 P=true)(hloc:(P.all λx=>Jz (XC scope.names x))=true)(hd:∀Ro,YH C.ρ Ro fc.dflts dv)
  (hb:J9 C.K (fnOf name qual params body scope dV kV doc pm an cdv ct) P dv)(n:Nat)(cal:Je)
  (hrun:∀L F G env,Xm C.ρ F->XS C.ρ G->Yu C scope [] [] L env->SS C n L ⟨F,G,Xr.get,842,cal⟩ fc.body (execs body env)):
  DA C n f (fnOf name qual params body scope dV kV doc pm an cdv ct) fc body cal:=by
 refine b4 h3 λg1 g2 g3 g4=>?_
 exact {obj:=⟨_,_,_,h1⟩,code:=h2,stmts:=rfl,cell:=ZK g1,co:=YY g2,gen:=YY g3,kind:=YM g4,bind:=U9 Ry hP hN hloc hd hb,run:=λL F G HF HG=>hrun L F G _ HF HG ⟨⟨rfl,rfl,rfl,YM g4⟩,rfl,nofun,λx _=>by rw[Ry];rfl⟩}
def fnP(m:MS):X7:=⟨[166,167],[],m⟩
def Ii(X:Mj)(m:MS):Je:=λf args s=>match f with
 | .fn a=>bc (Nat.beq a 1273) (Zw X Wd args s (some (fnP m))) .no
 |_=> .no
abbrev fdP:FuncData:=fdO "_law_pool" "_law_pool" (Yk 93) (Value.none) (Value.none) (Value.str (QW "law_pq1202_01") 1960) (Value.ref 1272)
theorem XkD(O:C.Ok)(Ry:C.cellv=[])(hK:C.K=KF P){m:MS}
  (hrun:∀L F G env,Xm C.ρ F->XS C.ρ G->Yu C KV [] [] L env->SS C n L ⟨F,G,Xr.get,842,Wd⟩ m (execs bP env)):DA C n 1273 fdP (fnP m) bP Wd:=by
 refine b3 Xpr λq1 q2 q3=>?_
 exact Xdz (fc:=fnP m) O Ry (by rw[hK];exact Xoe P) (by rw[hK];exact Xn8 P) q1 Xph q2 q3 (λRo=> .nil) (by rw[hK];exact Xm9 P) n Wd hrun
set_option tactic.hygienic true in
theorem BY(O:C.Ok)(Rx:C.cells=[])(Ry:C.cellv=[])(hK:C.K=KF P)(hX1:X.top.cls=Xr.get)(hX2:X.top.wheelC=842)(HF:Xm C.ρ X.F)(HG:XS C.ρ X.G){m:MS}
  (hrun:∀L F G env,Xm C.ρ F->XS C.ρ G->Yu C KV [] [] L env->SS C n L ⟨F,G,Xr.get,842,Wd⟩ m (execs bP env)):XB C (n + 1) (Ii X m):=by
 intro A g f args σ v σ' Ro Rq s fv vs e R Rf Rs Q h
 induction f<;>try (injection e;done)
 rename_i a
 refine Rf.fnE ?_
 obtain ⟨c1,e⟩:=YR (show bc (Nat.beq a 1273) (Zw X Wd args σ (some (fnP m))) .no= .ok v σ' from e) nofun
 have:=Qi c1
 subst this
 exact O1 Rx O (XkD O Ry hK hrun) hX1 hX2 HF HG g R Rs e Q h
def pl0(sa:Nat):YG:=[(166,.fn sa),(167,.int ⟨0,[]⟩)]
def Bm(sa:Nat)(c:LI):YG:=[(166,.fn sa),(167,.int ⟨0,[]⟩),(170,.int c)]
theorem Dk{a:M}{b:MS}{t:Bool}(ha:a k (Bm sa ⟨0,[]⟩) σ= .ok (.int z) σ)(ht:Ux k.F 2 σ (.int ⟨0,[]⟩) (.int z)=some t):
  Xay a b k (pl0 sa) σ=(bc t (b k (Bm sa ⟨0,[]⟩) σ) (.next (Bm sa ⟨0,[]⟩) σ)).to (Wk k):=by
 have h1:XbR k (pl0 sa) σ= .next (Bm sa ⟨0,[]⟩) σ:=rfl
 have h2:Xp 2 (Xb 167) a k (Bm sa ⟨0,[]⟩) σ= .ok t σ:=by
  show Xu.to (a k (Bm sa ⟨0,[]⟩) σ) ZI.no (λy s=>NV (Ux k.F 2 s (.int ⟨0,[]⟩) y) s)=_
  rw[ha]
  show NV (Ux k.F 2 σ (.int ⟨0,[]⟩) (.int z)) σ=_
  rw[ht]
 show Zk.to (XbR k (pl0 sa) σ) (Xd (Yn (Xp 2 (Xb 167) a) b Xg) Wk k)=_
 rw[h1]
 show Zk.to (ZI.to (Xp 2 (Xb 167) a k (Bm sa ⟨0,[]⟩) σ) Zk.no (λc s=>bc c (b k (Bm sa ⟨0,[]⟩) s) (Xg k (Bm sa ⟨0,[]⟩) s))) (Wk k)=_
 rw[h2]
 rfl
theorem XbQ{c:LI}(ht:Ux k.F 2 σ (.int ⟨0,[]⟩) (.int z)=some true):XeB sa z c k (pl0 sa) σ=Wk k (Bm sa c) σ:=by
 unfold XeB
 rw[Dk (z:=z) (t:=true) D5 ht]
 have h3:D8 sa c k (Bm sa ⟨0,[]⟩) σ= .ok (.int c) σ:=D5
 show Zk.to (Zk.to (Xu.to (D8 sa c k (Bm sa ⟨0,[]⟩) σ) Zk.no (λv s=> .next (XM (Bm sa ⟨0,[]⟩) 170 v) s)) (Xg k)) (Wk k)=_
 rw[h3]
 rfl
theorem XbP(ht:Ux k.F 2 σ (.int ⟨0,[]⟩) (.int z)=some false):Bn sa z k (pl0 sa) σ=Wk k (Bm sa ⟨0,[]⟩) σ:=by
 unfold Bn
 rw[Dk (z:=z) (t:=false) D5 ht]
def fA(p big:Bool):XA:=[([(63,1)],-1,true),([(60,-2)],-2,!p),(bc p [(60,1)] [(60,-1)],bc p (-1000000000000000000) (-1000000000000000001),big)]
def Xni(p:Bool):LI:=bc p ⟨0,[(60,1)]⟩ ⟨-1,[(60,-1)]⟩
def gA(p:Bool):Oz:=[(4,Xni p,⟨2147483629,[]⟩,⟨0,[(61,1)]⟩),(4,⟨820607,[(61,48271)]⟩,⟨2147483647,[]⟩,⟨0,[(62,1)]⟩)]
def XbN(F:XA)(G:Oz)(c:LI)(sa:Nat):Zk:=Wk ⟨F,G,Xr.get,842,Wd⟩ (Bm sa c) ⟨.nil,0⟩
theorem Xmc(sa:Nat):XbN (fA true true) (gA true) ⟨0,[(60,1)]⟩ sa= .ret (.ref 0) ⟨.node (some (.list [.int ⟨0,[(60,1)]⟩,.int ⟨0,[(62,1)]⟩])) .nil .nil,1⟩:=by kernel_rfl
theorem Xmb(sa:Nat):XbN (fA true false) (gA true) ⟨0,[(60,1)]⟩ sa= .ret (.ref 0) ⟨.node (some (.list [.int ⟨0,[]⟩,.int ⟨0,[(62,1)]⟩])) .nil .nil,1⟩:=by kernel_rfl
theorem Xl9(sa:Nat):XbN (fA false true) (gA false) ⟨0,[(60,1)]⟩ sa= .ret (.ref 0) ⟨.node (some (.list [.int ⟨-1,[(60,-1)]⟩,.int ⟨0,[(62,1)]⟩])) .nil .nil,1⟩:=by kernel_rfl
theorem Xl8(sa:Nat):XbN (fA false false) (gA false) ⟨0,[(60,1)]⟩ sa= .ret (.ref 0) ⟨.node (some (.list [.int ⟨0,[]⟩,.int ⟨0,[(62,1)]⟩])) .nil .nil,1⟩:=by kernel_rfl
theorem XpN(sa:Nat):XbN [] [] ⟨0,[]⟩ sa= .ret (.ref 0) ⟨.node (some (.list [.int ⟨0,[]⟩,.int ⟨820607,[]⟩])) .nil .nil,1⟩:=by kernel_rfl
abbrev L1(i:Nat):LI:=⟨0,[(i,1)]⟩
noncomputable def F0:XA:=[([(10,1)],-40,false),
 ([(10,1)],0,true),
 ([(10,-1)],40,true),
 ([(10,1),(20,1)],-43,false),
 ([(10,1),(20,1)],0,true),
 ([(10,-1),(20,-1)],43,true),
 ([(10,1),(11,1),(20,1)],-83,false),
 ([(10,1),(11,1),(20,1)],0,true),
 ([(10,-1),(11,-1),(20,-1)],83,true),
 ([(10,1),(11,1),(20,1),(21,1)],-86,false),
 ([(10,1),(11,1),(20,1),(21,1)],0,true),
 ([(10,-1),(11,-1),(20,-1),(21,-1)],86,true),
 ([(10,1),(11,1),(12,1),(20,1),(21,1)],-126,false),
 ([(10,1),(11,1),(12,1),(20,1),(21,1)],0,true),
 ([(10,-1),(11,-1),(12,-1),(20,-1),(21,-1)],126,true),
 ([(10,1),(11,1),(12,1),(20,1),(21,1),(22,1)],-129,false),
 ([(10,1),(11,1),(12,1),(20,1),(21,1),(22,1)],0,true),
 ([(10,-1),(11,-1),(12,-1),(20,-1),(21,-1),(22,-1)],129,true),
 ([(10,1),(11,1),(12,1),(13,1),(20,1),(21,1),(22,1)],-169,false),
 ([(10,1),(11,1),(12,1),(13,1),(20,1),(21,1),(22,1)],0,true),
 ([(10,-1),(11,-1),(12,-1),(13,-1),(20,-1),(21,-1),(22,-1)],169,true),
 ([(10,-1)],1,false),
 ([(10,1)],-2,true),
 ([(11,-1)],1,false),
 ([(11,1)],-2,true),
 ([(12,-1)],1,false),
 ([(12,1)],-2,true),
 ([(13,-1)],1,false),
 ([(13,1)],-2,true),
 ([(20,1)],0,true),
 ([(20,-1)],3,true),
 ([(20,1)],-3,false),
 ([(21,1)],0,true),
 ([(21,-1)],3,true),
 ([(21,1)],-3,false),
 ([(22,1)],0,true),
 ([(22,-1)],3,true),
 ([(22,1)],-3,false),
 ([(11,1),(20,1)],-2,true),
 ([(11,-1),(20,-1)],1,false),
 ([(12,1),(21,1)],-2,true),
 ([(12,-1),(21,-1)],1,false),
 ([(13,1),(22,1)],-2,true),
 ([(13,-1),(22,-1)],1,false),
 ([(40,1)],0,true),
 ([(41,1)],0,true),
 ([(42,1)],0,true),
 ([(30,1)],0,true),
 ([(31,1)],0,true),
 ([(32,1)],0,true)]
noncomputable def tb0:TB3:=[(L1 0,L1 1,L1 2,L1 10),(L1 10,L1 1,L1 2,L1 10),(⟨0,[(10,2)]⟩,L1 1,L1 2,L1 11),(⟨0,[(10,4)]⟩,L1 1,L1 2,L1 12),(⟨0,[(10,8)]⟩,L1 1,L1 2,L1 13)]
noncomputable def tw0:TW:=[(L1 0,L1 1,L1 2,0,L1 10),(L1 0,L1 1,L1 2,1,L1 11),(L1 0,L1 1,L1 2,2,L1 12),(L1 0,L1 1,L1 2,3,L1 13)]
noncomputable def tf0:TFo:=[(0,17,.str 2),(2,19,.str 4),(4,18,.str 5),(5,18,.none)]
structure WS where
 f:XA
 w:LI
 s:LI
noncomputable def wsA:WS:=⟨[([(51,1)],-8,true),([(51,-1)],7,false)],Xn 8,L1 51⟩
noncomputable def wsB:WS:=⟨[([(50,1)],-12,true),([(50,-1)],11,false)],L1 50,Xn 8⟩
noncomputable def wsC:WS:=⟨[([(51,1)],-16,true),([(51,-1)],15,false)],Xn 12,L1 51⟩
def wsD:WS:=⟨[],Xn 40,Xn 16⟩
def wsE:WS:=⟨[],Xn 40,Xn 31⟩
noncomputable def wsF:WS:=⟨[([(51,1)],-16,true),([(51,-1)],15,false),([(51,1)],-32,false),([(51,-1)],31,true)],Xn 40,L1 51⟩
noncomputable def wsG:WS:=⟨[([(50,1)],-8,true),([(50,-1)],7,false),([(50,-1),(51,1)],0,true),([(50,1),(51,-1)],-1,false)],L1 50,L1 51⟩
noncomputable def wsH:WS:=⟨[([(51,1)],-8,true),([(51,-1)],7,false),([(50,-1),(51,1)],0,false),([(50,1),(51,-1)],-1,true)],L1 50,L1 51⟩
noncomputable def Zy(k:Int):O:= .flds 863 [(6,.int ⟨256,[]⟩),(19,.int ⟨4,[]⟩),(116,.int ⟨40,[]⟩),(117,.int ⟨16,[]⟩),(118,.int (L1 0)),(119,.int (L1 1)),(120,.int (L1 2)),(32,.int ⟨k,[]⟩),(121,.int ⟨2,[]⟩),(122,.int ⟨12,[]⟩)]
noncomputable def JG(src:List (Int×LI))(k:Int):St:=⟨.node (some (.src src)) (.node (some (Zy k)) .nil .nil) (.node (some (.inst 863 1)) .nil .nil),3⟩
noncomputable def ZY:List (Int×LI):=[(7,L1 70),(3,L1 71)]
noncomputable def NO(b:List Nat):YG:=[(171,.ref 0),(123,.ref 2),(49,.bytes b)]
def WL(C:Cx)(n:Nat)(b:List Nat)(src:List (Int×LI))(k:Int):Prop:=∃F G cal σ',Xm C.ρ F/\XS C.ρ G/\XB C n cal/\Gu ⟨F,G,Xr.get,842,cal⟩ (NO b) (JG src k)= .ok (.bool true) σ'/\
 σ'.h.get 0=some (.src ZY)/\σ'.h.get 1=some (Zy k)/\σ'.h.get 2=some (.inst 863 1)
def Iy(C:Cx)(n:Nat)(b:List Nat)(k:Int):Prop:=∃F G cal σ',Xm C.ρ F/\XS C.ρ G/\XB C n cal/\Bf ⟨F,G,Xr.get,842,cal⟩ (NO b) (JG ZY k)= .ok (.bool true) σ'/\
 σ'.h.get 0=some (.src ZY)/\σ'.h.get 1=some (Zy k)/\σ'.h.get 2=some (.inst 863 1)
def Il:YG:=[(171,.ref 0),(123,.ref 2)]
def U8(C:Cx)(n:Nat)(k:Int):Prop:=∃F G cal src σ',Xm C.ρ F/\XS C.ρ G/\XB C n cal/\(∀p q,Jw C.ρ p q ZY->Jw C.ρ p q src)/\s7M ⟨F,G,Xr.get,842,cal⟩ Il (JG src k)= .ret (.bool true) σ'
theorem At.as{Ro Rq σ σ' l l' h m}(T:At C L Ro Rq σ l h m)(hn:σ'.n=σ.n)(ho:∀i o',σ'.h.get i=some o'->∃o,σ.h.get i=some o/\∀a,OR C.ρ Ro Rq h i a o->OR C.ρ Ro Rq h i a o')
  (hl:∀n v',Xh l' n=some v'->∃v,Xh l n=some v/\VT C.ρ Ro C.ρ Ro v v'):At C L Ro Rq σ' l' h m:=by
 refine ⟨⟨by rw[hn];exact T.rp.len,T.rp.old,T.rp.keep,T.rp.big,λi o' e=>?_⟩,T.fr,T.ownL,λj v' e=>?_,T.cel⟩
 ·refine YB (ho i o' e) λo e1 e2=>?_
  refine YO (T.rp.obj i o e1) λa f1 f2 f3=>?_
  exact ⟨a,f1,f2,e2 a f3⟩
 ·refine YB (hl j v' e) λv e1 e2=>?_
  refine UB (T.lr j v e1) λx y g1 g2 g3=>?_
  exact ⟨x,y,g1,g2,e2 _ g3⟩
theorem XaG{src:List (Int×LI)}{k:Int}(h:(JG src k).h.get i=some o):(i=0/\o= .src src)∨(i=1/\o=Zy k)∨(i=2/\o= .inst 863 1):=by
 revert h
 refine UY i (λh=> .inl ⟨rfl,(QV h).symm⟩) (λq h=>?_) λq h=>?_
 ·revert h
  exact UY q (λh=> .inr (.inl ⟨rfl,(QV h).symm⟩)) (λ_ h=>Xx ((Tr.getO.trans Tr.getO).symm.trans h)) λ_ h=>Xx ((Tr.getO.trans Tr.getE).symm.trans h)
 ·revert h
  exact UY q (λh=> .inr (.inr ⟨rfl,(QV h).symm⟩)) (λ_ h=>Xx ((Tr.getE.trans Tr.getO).symm.trans h)) λ_ h=>Xx ((Tr.getE.trans Tr.getE).symm.trans h)
theorem At.cut3{Ro Rq σ l h m}(T:At C L Ro Rq σ l h m){src src':List (Int×LI)}{k:Int}(h0:σ.h.get 0=some (.src src))(h1:σ.h.get 1=some (Zy k))(h2:σ.h.get 2=some (.inst 863 1))(l':YG)
  (hl:∀n v',Xh l' n=some v'->∃v,Xh l n=some v/\((v=v'/\∀i,v≠ .ref i)∨(v=v'/\∃i,i < 3/\v= .ref i)))(hd:∀p q,Jw C.ρ p q src->Jw C.ρ p q src'):
  ∃adc Rt,At C L adc Rt (JG src' k) l' h m:=by
 have key:∃adc Rt,At C L adc Rt (JG src k) l' h m:=by
  refine T.cut (σc:=JG src k) (js:=[0,1,2]) (by decide) rfl ?_ ?_ ?_
  ·intro j hj
   rcases Qe hj with rfl |hj
   ·exact ⟨_,h0⟩
   rcases Qe hj with rfl |hj
   ·exact ⟨_,h1⟩
   rcases Qe hj with rfl |hj
   ·exact ⟨_,h2⟩
   cases hj
  ·intro adc hadc i o' e
   rcases XaG e with ⟨rfl,rfl⟩ |⟨rfl,rfl⟩ |⟨rfl,rfl⟩
   ·exact ⟨0,_,rfl,h0,.inl ⟨_,rfl,rfl⟩⟩
   ·refine ⟨1,_,rfl,h1,.inr (.flds ?_)⟩
    have vi:∀{x:LI},VT C.ρ Ro C.ρ adc (.int x) (.int x):=VT.int rfl
    exact .cons vi (.cons vi (.cons vi (.cons vi (.cons vi (.cons vi (.cons vi (.cons vi (.cons vi (.cons vi .nil)))))))))
   ·refine ⟨2,_,rfl,h2,.inr (.inst λb hb=>?_)⟩
    rw[hadc 1 1 rfl];exact hb
  ·intro adc hadc j v' e
   refine YB (hl j v' e) λv e1 e2=>?_
   refine ⟨v,e1,λy hy=>?_⟩
   rcases e2 with ⟨rfl,e2⟩ |⟨rfl,i,hi,rfl⟩
   ·induction hy<;>first |exact absurd rfl (e2 _) |(constructor;done) |(constructor;assumption)
   ·refine YB hy.refI λa zz1 e=>?_;subst zz1
    refine .ref _ _ ?_
    have:adc[i]?=Ro[i]?:=by
     exact n3L (n:=i) hi (hadc 0 0 rfl) (hadc 1 1 rfl) (hadc 2 2 rfl)
    rw[this];exact e
 refine x21 key λadc Rt T'=>?_
 refine ⟨adc,Rt,T'.as rfl (λi o' e=>?_) λj v' e=>⟨v',e,λ_ z=>z⟩⟩
 rcases XaG e with ⟨rfl,rfl⟩ |⟨rfl,rfl⟩ |⟨rfl,rfl⟩
 ·refine ⟨.src src,rfl,λa hr=>?_⟩
  refine x55 hr λp q t u nn g1 g2 g3 g4 g5=>?_
  exact ⟨p,q,t,u,nn,g1,g2,g3,g4,hd p q g5⟩
 ·exact ⟨_,rfl,λ_ z=>z⟩
 ·exact ⟨_,rfl,λ_ z=>z⟩
def Xaz:MS:=
 (Xd (Xl (Xj (Xb 137) 131) 27 (Xk (.fn 1287) (Xa (Xb 171) (Xa (Yx (Xa (Xf 8) (Xa (Xf 16) (Xa (Xf 31) Xe)))) Xe))))
 (Xd (Zb (Xk (.fn 945) (Xa (Xb 137) (Xa (Xb 49) (Xa (Xf 3) Xe)))))
 (Xd (Yn (tV (Xb 179)) (Xd (Zb (Xk (.fn 952) (Xa (Xb 137) (Xa (Xf 3) Xe)))) Xg) Xg)
 (Xd (Zb (Xi (Xj (Xb 137) 129) 71 (Xa (Xf 4) (Xa (Xf 9999) Xe))))
 (Xd (Xz 12 (Xo 0 (Xf 3) (Xk (.fn 1301) (Xa (Xb 123) (Xa (Xf 0) Xe)))))
 (Xd (Xz 83 (Uz (YQ 4 (Xi (Xj (Xb 137) 134) 28 Xe) (YI 0 (Xa (Xb 49) Xe))) (YQ 3 (YI 0 (Xa (Xb 49) Xe)) (Xf 4)))) Xg))))))
def XaJ:MS:=
 (Xd (J3 [28,106] (Yg (Xa (Xi (Xj (Xb 137) 134) 28 Xe) (Xa (Xk (.fn 1280) (Xa (Xb 171) (Xa (Xf 3) Xe))) Xe))))
 (Xd (Gp [((Xj (Xb 137) 131),24),((Xj (Xb 137) 131),23)] (Yg (Xa (Xk (.fn 1280) (Xa (Xb 171) (Xa (Xf 3) Xe))) (Xa (YQ 0 (Xk (.fn 1280) (Xa (Xb 171) (Xa (Xf 2) Xe))) (Xf 0)) Xe))))
 (Xd (Yn (Wf (Xp 1 (Xi (Xj (Xb 137) 129) 145 (Xa (Xf 1) Xe)) (Xb 12)) (Xp 1 (Xk (.fn 1015) (Xa (Xb 137) (Xa (Xo 1 (Xb 12) (Xf 1)) Xe))) (Yx Xe))) (Xd (Xq (XE false)) Xg) Xg)
 (Xd (Xz 78 (Xk (.fn 1015) (Xa (Xb 137) (Xa (Xo 0 (Xb 12) (Xb 106)) Xe))))
 (Xd (Xz 12 (Xo 0 (Xo 0 (Xb 12) (Xb 106)) (Xk (.fn 1301) (Xa (Xb 123) (Xa (Xo 0 (Xb 39) (Xf 1)) Xe)))))
 (Xd (Yn (Wf (Ur (tV (Xk (.fn 1313) (Xa (Xb 137) (Xa (Xb 78) (Xa (Zm (Xb 49) none (some (Xf 4))) (Xa (Xb 83) Xe))))))) (Ur (tV (Xk (.fn 1308) (Xa (Xb 137) (Xa (Xb 28) Xe)))))) (Xd (Xq (XE false)) Xg) Xg) Xg))))))
def Xgt:MS:=
 (Xd (Yn (Wf (Xp 1 (Xk (.fn 1015) (Xa (Xb 137) (Xa (Xb 12) Xe))) (Yx Xe)) (Xp 1 (Yg (Xa (Xj (Xb 137) 100) (Xa (Xj (Xb 137) 128) Xe))) (Yg (Xa (Ju 0) (Xa (Ju 16) Xe))))) (Xd (Xq (XE false)) Xg) Xg)
 (Xd (Xq (YQ 0 (Uu (Xi (Xj (Xb 137) 129) 145 (Xa (Xb 109) Xe)) (Yh 109) [137] (Yx (Xa (Xf 1) (Xa (Xf 2) (Xa (Xf 3) (Xa (Xf 4) Xe)))))) (Xo 2 (Yx (Xa XD Xe)) (Xf 4)))) Xg))
def XnT:List Stmt:=XeZ (N9 ZT.tail 6)
theorem Xln:XY Z6 [Yt] Nn [Yt] (ZT.tail.take 6)=some Xaz:=by kernel_rfl
theorem Xmz:XY Z6 [Yt] Nn [Yt] XnT=some XaJ:=by kernel_rfl
theorem XnR:XY Z6 [Yt] Nn [Yt] (ZT.tail.drop 7)=some Xgt:=by kernel_rfl
noncomputable def lT0(b:List Nat)(c:Bool):YG:=[(171,.ref 0),(123,.ref 2),(49,.bytes b),(179,.bool c)]
structure KOK(C:Cx)(n:Nat)(k:K):Prop where
 F:Xm C.ρ k.F
 G:XS C.ρ k.G
 cal:XB C n k.call
 cls:k.cls=Xr.get
 wh:k.wheelC=842
theorem At.beside1(T:At C L Ro Rq σ l h m)(hI:Rq I=none)(hIH:C.H0.get? I=none)(hIL:I≠L)(hIc:∀p∈C.cells,p.1≠I)
  (hk':∀b o,b≠I->h.get? b=some o->h'.get? b=some o):At C L Ro Rq σ l h' m:=by
 have F':=XkG T.fr (λo e=>hk' L o hIL.symm e) (λb o e=>hk' b o (by rintro rfl;rw[hIH] at e;cases e) (T.fr.keep b o e))
 refine ⟨⟨T.rp.len,T.rp.old,F'.keep,JS F',λj o e=>?_⟩,F',T.ownL,T.lr,λp hp=>?_⟩
 ·refine YO (T.rp.obj j o e) λa h1 h2 h3=>?_
  exact ⟨a,h1,h2,h3.mono h2 Qy (λb o hb e=>hk' b o (by rintro rfl;rw[hI] at hb;cases hb) e) λ_ _=>rfl⟩
 ·refine YF (T.cel p hp) λc1 c2 c3=>?_
  exact ⟨c1,hk' _ _ (hIc p hp) c2,c3⟩
theorem Xbm(g:YK A n)(ht:JA target=true)(hb:IO C n L env target (Yh 39))(hLn:h0.get? L=none)(hI0:h0.get? I=none)(hIH:C.H0.get? I=none)(hIL:I≠L)(hIc:∀p∈C.cells,p.1≠I)
  (hN:ads0.length<=N){zz:Nat->List (Nat×O)}{lz:Nat->YG}{src:Nat->List (Int×LI)}{k:Nat}{kT:Nat->K}{x:MS}(hx:∀t,t < k->SS C n L (kT t) x (execs body env)){ga:Nat->JQ}(hg:∀t,Zi C.ρ (ga t))
  (hrun:∀t,t < k->GT (ga t) N (zz (t + 1)) (lz (t + 1)) (x (kT t) (XM (lz t) 39 (.int ⟨t,[]⟩)) (Jb N (zz t) (src t)))=some (src (t + 1)))
  (hR:∀Ro Rq h m t,At C L Ro Rq (Jb N (zz k) (src k)) (lz k) h m->JK own0 h0 Rq h->ads0 <+:Ro->R (.ok .next) {s0 with heap:=h,toks:=t})
  (f:Nat)(t0:Nat)(hf:t0 + f=k){Ro Rq m h t}(T:At C L Ro Rq (Jb N (zz t0) (src t0)) (lz t0) h m)(Kp:JK own0 h0 Rq h)(p:ads0 <+:Ro)(hI:Rq I=none)(hit:IsRangeIter h I t0 f 1):
  codeAny (model C.prog C.w) A (.forLoop target (.ref I) body [] env) R {s0 with heap:=h,toks:=t}:=by
 refine KI (λ(f:Nat) (s:Rk)=>∃h t,s={s0 with heap:=h,toks:=t}/\∃t0 Ro Rq m,t0 + f=k/\At C L Ro Rq (Jb N (zz t0) (src t0)) (lz t0) h m/\JK own0 h0 Rq h/\ads0 <+:Ro/\Rq I=none/\IsRangeIter h I t0 f 1) λV up dn=>?_
 refine codeAny_forLoop_any V (λf s hi=>?_) f (up _ _ ⟨_,_,rfl,t0,Ro,Rq,m,hf,T,Kp,p,hI,hit⟩)
 refine Y5 (dn _ _ hi) λh t zz2 hj=>?_;subst zz2;refine x46 hj λt0 Ro Rq m hf T Kp p hI hit=>?_
 cases f with
 |zero=>
  have:t0=k:=by lia
  subst this
  refine wpAny_pyNext_range_end (s:={s0 with heap:=h,toks:=t}) g.1 hit (Int.le_refl _) λh' hk=>?_
  exact wpAny_execs_nil (hR _ _ _ _ _ (T.beside1 hI hIH hIL hIc λb o hb e=>hk b o hb e) (Kp.heap hI0 λb o hb e=>hk b o hb e) p)
 |succ f=>
  have htk:t0 < k:=by lia
  refine wpAny_pyNext_range_item (s:={s0 with heap:=h,toks:=t}) hit (by lia) λh' hit' hk=>?_
  have hit2:IsRangeIter h' I ((t0 + 1:Nat):Int) f 1:=by
   have e1:(((f + 1:Nat):Int) - 1)=(f:Int):=by lia
   have e2:((t0:Int) + 1)=((t0 + 1:Nat):Int):=by lia
   rw[e1,e2] at hit';exact hit'
  have hkb:∀b o,b≠I->h.get? b=some o->h'.get? b=some o:=λb o hb e=>hk.extBut b o hb e
  have T':=T.beside1 hI hIH hIL hIc hkb
  have K':=Kp.heap hI0 hkb
  refine D0 ht ?_
  refine hb A g Ro Rq _ _ {s0 with heap:=h',toks:=t + 1} m (.int ⟨t0,[]⟩) _ _ T' (.int _ _ t (Rb _)) rfl _ _ λh2 t2 m2 G2 T2=>?_
  refine Y5 (B6 (hrun t0 htk)) λl2 σ2 e1 e2=>?_
  refine hx t0 htk A g _ _ _ _ {s0 with heap:=h2,toks:=t2} _ _ T2 e1 nofun _ _ λh3 t3 RB RC m3 G3 T3=>?_
  have hI2:=G2.keep I _ hit2 hI hIL
  have hI3:=G3.keep I _ hI2 hI hIL
  exact ⟨f,QO f,up _ _ ⟨h3,t3,rfl,t0 + 1,_,_,m3,by lia,B7 (hg t0) e2 T3,((K'.gone hLn G2).gone hLn G3).trim,Og (p.trans G3.pre) hN,ZL ((G3.same I _ hI2).trans hI),hI3⟩⟩
def Xbo:Option Stmt:=ZT.tail[6]?
def MQ:(Pos×Pos×Pos×Pos×Pos)×Expr:=((UC (Xbo.getD default) [0],UC (Xbo.getD default) [1,0],UC (Xbo.getD default) [1,1],UC (Xbo.getD default) [1],(Xbo.getD default).pos),eAt (Xbo.getD default) [1,1])
theorem XkE:ZT.tail=ZT.tail.take 6++(Stmt.For (.Name (QW "turn") MQ.1.1) (.Call (.Name (QW "range") MQ.1.2.1) [MQ.2] [] MQ.1.2.2.2.1) XnT [] MQ.1.2.2.2.2)::ZT.tail.drop 7:=by kernel_rfl
def Xke:M:=Xj (Xb 123) 32
theorem Xm7:Yi Z6 [Yt] 40 Nn [Yt] MQ.2=some Xke:=by kernel_rfl
theorem XkF:Zc[39]?=some (QW "turn")/\GA [Yt] (QW "turn")=false/\XC Nn.names (QW "turn")=some .local/\XC Nn.names (QW "range")=some .globalImplicit:=⟨by kernel_rfl,by kernel_rfl,by kernel_rfl,by kernel_rfl⟩
noncomputable def lT1(b:List Nat)(c:Bool):YG:=[(171,.ref 0),(123,.ref 2),(49,.bytes b),(179,.bool c),(137,.ref 7)]
structure Xkb(C:Cx)(n:Nat)(b:List Nat)(c:Bool)(k:Nat)(srcA srcZ:List (Int×LI)) where
 g0:JQ
 gH:JQ
 gP:JQ
 gT:Nat->JQ
 gF:JQ
 kH:K
 kP:K
 kR:K
 kF:K
 kT:Nat->K
 z3:List (Nat×O)
 zh:List (Nat×O)
 zz:Nat->List (Nat×O)
 lz:Nat->YG
 srcB:List (Int×LI)
 src:Nat->List (Int×LI)
 σ1:St
 w:LI
 hg0:Zi C.ρ g0
 hgH:Zi C.ρ gH
 hgP:Zi C.ρ gP
 hgT:∀t,Zi C.ρ (gT t)
 hgF:Zi C.ρ gF
 KH:KOK C n kH
 KP:KOK C n kP
 KR:KOK C n kR
 KF':KOK C n kF
 KT:∀t,t < k->KOK C n (kT t)
 c0:Ue g0 3 z3 [] [] (JG srcA k)=some srcA
 eH:UM kH (lT0 b c) (Jb 3 z3 srcA)= .ok (.ref 7) σ1
 cH:Ue gH 23 zh [] [] σ1=some srcB
 eP:GT gP 23 (zz 0) (lz 0) (Xaz kP (lT1 b c) (Jb 23 zh srcB))=some (src 0)
 eR:Xke kR (lz 0) (Jb 23 (zz 0) (src 0))= .ok (.int w) (Jb 23 (zz 0) (src 0))
 hw:w.val C.ρ=k
 eT:∀t,t < k->GT (gT t) 23 (zz (t + 1)) (lz (t + 1)) (XaJ (kT t) (XM (lz t) 39 (.int ⟨t,[]⟩)) (Jb 23 (zz t) (src t)))=some (src (t + 1))
 eF:Xgc gF 3 [(1,Zy k),(2,.inst 863 1)] (Xgt kF (lz k) (Jb 23 (zz k) (src k)))=some srcZ
def XvU(N:Nat)(l:YG):Bool:=l.all λp=>match p.2 with
 | .ref i=>Nat.blt i N
 |_=>true
theorem XaC(h:XvU N l=true)(q:Xh l n=some v)(e:v= .ref i):i < N:=by
 have:=Qf h _ (Zs q)
 rw[e] at this
 exact Nat.blt_eq.mp this
theorem Mc(OK:C.Ok)(Rx:C.cells=[])(Ry:C.cellv=[])(hK:C.K=KF P)(g:X5 A (n + 1)){b:List Nat}{c:Bool}{k:Nat}{srcA:List (Int×LI)}(D:Xkb C n b c k srcA srcZ)(hk1:1<=k)(hk60:k<=60000)
  {Ro Rq}(R:Rp C Ro Rq (JG srcA k) s.heap)(Rs:YH C.ρ Ro [.ref 0,.ref 2,.bytes b,.bool c] vs)(Q:Result->Rk->Prop)
  (h:N0 C Ro Rq s (Jb 3 [(1,Zy k),(2,.inst 863 1)] srcZ) (.bool true) Q):
  codeAny (model C.prog C.w) A (.call (.ref 1318) ⟨vs,[]⟩) Q s:=by
 have hal3:Ro.length=3:=R.len
 have ids:∀{N:Nat}{Ro:List Rn}{v:V},(∀i,v= .ref i->i < N)->VT C.ρ Ro C.ρ (Ro.take N) v v:=λ{N Ro v} hv y r=>by
  induction r with
  |ref i a e=>exact .ref i a (Nr (hv i rfl) e)
  |none=>exact .none
  |bool b=>exact .bool b
  |int i z t e=>exact .int i z t e
  |str k x t e=>exact .str k x t e
  |bytes b t e=>exact .bytes b t e
  |fn a=>exact .fn a
  |cls a=>exact .cls a
  |cond a b e=>exact .cond a b e
 have htake:Ro.take 3=Ro:=List.take_of_length_le (by omega)
 refine Ic (k:=D.kH) OK Rx Ry hK D.KH.F D.KH.G D.KH.cal D.KH.cls D.KH.wh g R Rs (τ:=Xp8 3) rfl (σh:=Jb 3 D.z3 srcA) (λ{L own0 h₁ m0} T0=>?_) D.eH Q λc' o2 w env L Ru Rv h2 t1 m1 OK1 X1 hL0 hp hs hkp hlv T2=>?_
 ·refine YF (JU D.hg0 D.c0 (Ro:=Ro) (Rq:=own0) (h:=h₁)) λt1 t2 t3=>?_
  have T1:At C L (Ro.take 3) (We 3 own0) (Jb 3 D.z3 srcA) (lT0 b c) h₁ m0:=T0.trim t1 rfl t2 λn v' q=>⟨v',q,ids λi hi=>XaC (N:=3) (l:=lT0 b c) rfl q hi⟩
  rw[htake] at T1
  exact T1
 have hE:=X1.l
 have K3:JK Rq s.heap Rv h2:=⟨λb o e hn=>⟨by rw[hs b o e,hn];rfl,hkp b o e hn⟩,hlv⟩
 have ss:=λ{k:K} (hk:KOK C n k) {body:List Stmt} {x:MS} (hx:XY Z6 [Yt] Nn [Yt] body=some x)=>X6 (C:=C.withCell c' o2 w) (n:=n) (k:=k) OK1 (JO hK) hk.F hk.G hk.cal.cell hk.cls hk.wh X1 hx
 refine YF (JU (ρ:=(C.withCell c' o2 w).ρ) D.hgH D.cH (Ro:=Ru) (Rq:=Rv) (h:=h2)) λu1 u2 u3=>?_
 have T3:At (C.withCell c' o2 w) L (Ru.take 23) (We 23 Rv) (Jb 23 D.zh D.srcB) (lT1 b c) h2 m1:=T2.trim u1 rfl u2 λn v' q=>⟨v',q,ids λi hi=>XaC (N:=23) (l:=lT1 b c) rfl q hi⟩
 have K4:JK Rq s.heap (We 23 Rv) h2:=K3.trim
 have P4:Ro <+:Ru.take 23:=Og hp (by omega)
 rw[XkE]
 refine Y5 (B6 D.eP) λl3 σ3 e3 c3=>?_
 have g':YK (A.deeper env) n:=g.deeper
 refine YD (ss D.KP Xln (A.deeper env) g' _ _ _ _ {s with heap:=h2,toks:=t1} m1 _ T3 e3 nofun _ _ λh3 tk3 RB RC m3 G3 T3'=>?_)
 have T4:=B7 (C:=C.withCell c' o2 w) D.hgP c3 T3'
 have K5:JK Rq s.heap (We 23 RC) h3:=(K4.gone hL0 G3).trim
 have P5:Ro <+:RB.take 23:=Og (P4.trans G3.pre) (by lia)
 refine Mf XkF λfn1 fn2 fn3 fn4=>?_
 have hturn:(C.withCell c' o2 w).cellv.lookup (QW "turn")=none:=X1.cv _ fn2
 have TB:=JO (C:=C.withCell c' o2 w) hK
 have sx:=YC (C:=C.withCell c' o2 w) (k:=D.kR) (cv:=[Yt]) OK1 TB D.KR.F D.KR.G D.KR.cal.cell D.KR.cls D.KR.wh 40 Nn [Yt] L env X1 _ _ Xm7
 refine QQ (wpAny_For (Call_ (JC X1.l T4.fr OK1.inK OK1.top TB.rng rfl (by decide) ?_ (X1.kind fn4) rfl)) (JW rfl))
 refine Zd (C:=C.withCell c' o2 w) rfl rfl ?_
 rw[XX rfl]
 refine spliced_cons (sx (A.deeper env) g' _ _ _ _ {s with heap:=h3,toks:=tk3} _ _ _ T4 D.eR _ _ λh4 tk4 ads4 own4 m4 wv G4 T5 R5=>?_)
 refine args_nil ?_
 have K6:JK Rq s.heap own4 h4:=K5.gone hL0 G4
 have P6:Ro <+:ads4:=P5.trans G4.pre
 have R5':YH (C.withCell c' o2 w).ρ ads4 [.int ⟨k,[]⟩] [wv]:= .cons (by
  refine R5.intF λz t e=>?_
  exact .int _ _ t (by show (k:Int) + 0=z;rw[←e,show D.w.val (C.withCell c' o2 w).ρ=k from D.hw];lia)) .nil
 have hits:Yo D.kR.F [.int ⟨k,[]⟩]=some (XI (Xn 0) k):=by
  show bc (Uo D.kR.F (Xn 0)) (bc (Nat.ble k 60000) (some (XI (Xn 0) k)) none) none=_
  rw[show Uo D.kR.F (Xn 0)=true from rfl,QD hk60]
 refine Ul (C:=C.withCell c' o2 w) (s:={s with heap:=h4,toks:=tk4}) D.KR.F T5 R5' hits λh5 tk5 ra z zl f u1 u2 u3 hk5 hr hz hfe hf5 hsm=>?_
 have hfk:f=k/\z=0:=by
  have len_rf:∀{n:Nat}{a:LI},(XI a n).length=n:=by
   intro n
   induction n with
   |zero=>intro a;rfl
   |succ n ih=>intro a;show (XI _ n).length + 1=n + 1;rw[ih]
  have h1:=congrArg List.length hfe
  rw[len_rf,len_rf] at h1
  refine ⟨h1.symm,?_⟩
  subst h1
  induction k with
  |zero=>lia
  |succ k=>
   have h2:V.int (Xn 0)=V.int zl:=QV (congrArg (λl=>l.head?) hfe)
   cases h2
   rw[←hz];rfl
 obtain ⟨rfl,rfl⟩:=hfk
 obtain ⟨G5,T6⟩:=T5.kept hk5
 refine Mf (Jj T6) λhf1 hf2 hf3 hf4=>?_
 refine wpAny_pyIter_range (s:={s with heap:=h5,toks:=tk5}) hr hsm ?_
 refine YF (T6.noOwn (h':=h5.push {cls:= .type "range_iterator",data:= .fields #[rawInt 0,rawInt (Builtin.Range.rangeSize 0 (0 + f) 1),rawInt 1]}) hf1 λb o e=>Qj _ e) λG6 T7 hI=>?_
 have hsz:Builtin.Range.rangeSize 0 (0 + (f:Int)) 1=f:=by
  rw[rangeSize_one]
  split<;>lia
 have K7:JK Rq s.heap own4 h5:=K6.gone hL0 G5
 have hne5:∀{b o},s.heap.get? b=some o->b≠h5.objs.size:=by
  rintro b o e rfl
  obtain ⟨o',e'⟩:=K7.live _ o e
  rw[hf1] at e';injection e'
 have hI0:s.heap.get? h5.objs.size=none:=by
  induction q:s.heap.get? h5.objs.size with
  |none=>rfl
  |some o=>exact absurd rfl (hne5 q)
 have K8:JK Rq s.heap (λb=>if b=h5.objs.size then none else own4 b) (h5.push {cls:= .type "range_iterator",data:= .fields #[rawInt 0,rawInt (Builtin.Range.rangeSize 0 (0 + f) 1),rawInt 1]}):=by
  refine ⟨λb o e hn=>?_,λb o e=>?_⟩
  ·obtain ⟨k1,k2⟩:=K7.keep b o e hn
   exact ⟨by show (if b=h5.objs.size then none else own4 b)=none;rw[if_neg (hne5 e)];exact k1,Qj _ k2⟩
  ·obtain ⟨o',e'⟩:=K7.live b o e
   exact ⟨o',Qj _ e'⟩
 have hb39:=bs1 (C:=C.withCell c' o2 w) (n:=n) hE (p:=MQ.1.1) fn1 hturn (X1.kind fn3)
 refine Xbm (C:=C.withCell c' o2 w) (s0:={s with heap:=h5,toks:=tk5}) (ads0:=Ro) g' rfl hb39 hL0 hI0 hf2 hf3 hf4 (by lia) (λt ht=>ss (D.KT t ht) Xmz) D.hgT D.eT (λads6 own6 h6 m6 tk6 T8 K9 P9=>?_) f 0 (by lia) T7 K8 P6 hI (by rw[hsz];exact QA _ rfl)
 refine YB (Xgd D.eF) λσf ef cf=>?_
 refine ss D.KF' XnR (A.deeper env) g' _ _ _ _ {s with heap:=h6,toks:=tk6} _ _ T8 ef nofun _ _ λh7 tk7 ads7 own7 m7 l7 val G7 T9 V7=>?_
 have K10:JK Rq s.heap own7 h7:=K9.gone hL0 G7
 have P10:Ro <+:ads7:=P9.trans G7.pre
 refine YF (JU (ρ:=(C.withCell c' o2 w).ρ) D.hgF cf (Ro:=ads7) (Rq:=own7) (h:=h7)) λw1 w2 w3=>?_
 have R9:=(T9.rp.trim w1 (σc:=Jb 3 [(1,Zy f),(2,.inst 863 1)] srcZ) rfl w2).uncell
 have ht3:ads7.take 3=Ro:=by
  have:=List.prefix_iff_eq_take.mp P10
  rw[hal3] at this;exact this.symm
 rw[ht3] at R9
 refine h h7 tk7 Ro Rq val ⟨Qy,λ_ _ _=>rfl,λb o e hn _=>(K10.keep b o e hn).2,K10.live⟩ ⟨hal3,R.old,R9.keep,R9.big,λi o e=>?_⟩ (by refine V7.boolE ?_;exact .bool _)
 refine YO (R9.obj i o e) λa f1 f2 f3=>?_
 have key:∀o0,(JG srcA f).h.get i=some o0->Rq a=some i:=λo0 e0=>by
  refine YO (R.obj i o0 e0) λa0 j1 j2 _=>?_
  rw[f1] at j1;obtain rfl:=QV j1;exact j2
 rcases Gy e with ⟨rfl,rfl⟩ |hm
 ·exact ⟨a,f1,key (.src srcA) rfl,f3⟩
 revert key f1 f3
 refine mE2 hm (λf1 f3 key=>⟨a,f1,key (Zy f) rfl,f3⟩) λhm=>mE2 hm (λf1 f3 key=>⟨a,f1,key (.inst 863 1) rfl,f3⟩) λhm=>?_
 cases hm
noncomputable def Xok:O:= .flds 863 [(6,.int ⟨256,[]⟩),(19,.int ⟨4,[]⟩),(116,.int ⟨40,[]⟩),(117,.int ⟨16,[]⟩),(118,.int (L1 0)),(119,.int (L1 1)),(120,.int (L1 2)),(32,.int (L1 92)),(121,.int ⟨2,[]⟩),(122,.int ⟨12,[]⟩)]
def z3L:List (Nat×O):=[(1,Xok),(2,.inst 863 1)]
noncomputable def Xft:List (Nat×O):=[(1,Xok),(2,.inst 863 1),(4,.tup [.int ⟨1,[]⟩,.int ⟨10,[]⟩]),(5,.tup [.int ⟨2,[]⟩,.int ⟨20,[]⟩]),(7,.inst 906 6),(9,.inst 676 8),(11,.inst 485 10),(13,.inst 450 12),
 (14,.flds 394 [(20,.int (L1 0)),(42,.int (L1 1)),(21,.int (L1 2)),(45,.int ⟨0,[]⟩),(44,.int ⟨0,[]⟩),(43,.int ⟨0,[]⟩)]),(15,.inst 394 14),(17,.inst 338 16),(19,.inst 261 18),
 (20,.flds 177 [(10,.int ⟨2,[]⟩),(13,.int ⟨0,[]⟩),(12,.none),(11,.bool false)]),(21,.inst 177 20)]
noncomputable def Xld(st:Nat):O:= .flds 906 [(123,.ref 2),(124,.ref 4),(125,.ref 5),(100,.str st),(134,.ref 9),(133,.none),(132,.ref 17),(131,.ref 19),(130,.ref 21),(129,.ref 22),(128,.none),(127,.int ⟨0,[]⟩),(126,.int ⟨0,[]⟩),(76,.bool true)]
noncomputable def Xlc(nx gr:LI)(asked sent:Bool):O:= .flds 676 [(60,.int ⟨250,[]⟩),(6,.int ⟨256,[]⟩),(19,.int ⟨4,[]⟩),(68,.int ⟨251,[]⟩),(67,.int nx),(66,.int gr),(65,.ref 11),(64,.ref 13),(63,.bool false),(62,.bool asked),(61,.bool sent)]
noncomputable def Xeo(w:LI):O:= .flds 485 [(6,.int ⟨256,[]⟩),(27,.int w),(21,.int w),(55,.int ⟨8,[]⟩),(54,.int ⟨251,[]⟩)]
def Xen(b:List Nat):O:= .flds 450 [(47,.int ⟨40,[]⟩),(48,.bytes b)]
noncomputable def Xk8(tries:Int)(at':V):O:= .flds 338 [(31,.ref 15),(32,.int (L1 92)),(35,.int ⟨tries,[]⟩),(34,at'),(33,.int ⟨0,[]⟩)]
noncomputable def Xem(s th:LI)(caut:Bool):O:= .flds 261 [(19,.int ⟨4,[]⟩),(21,.int ⟨44,[]⟩),(27,.int s),(26,.int th),(25,.int ⟨0,[]⟩),(24,.int ⟨0,[]⟩),(23,.bool false),(22,.bool caut)]
noncomputable def Ou(w:LI):List (Nat×O):=(6,Xld 4)::(8,Xlc ⟨251,[]⟩ ⟨251,[]⟩ false false)::(10,Xeo w)::(12,Xen [])::(16,Xk8 0 (.int ⟨251,[]⟩))::(18,Xem ⟨8,[]⟩ ⟨44,[]⟩ false)::(22,.wheel [] none 1)::Xft
noncomputable def due:Nat->LI
 | 0=>⟨3,[(10,1)]⟩
 | 1=>⟨3,[(10,1),(11,1),(20,1)]⟩
 | 2=>⟨3,[(10,1),(11,1),(12,1),(20,1),(21,1)]⟩
 |_=>⟨3,[(10,1),(11,1),(12,1),(13,1),(20,1),(21,1),(22,1)]⟩
noncomputable def rch:Nat->LI
 | 1=>⟨3,[(10,1),(20,1)]⟩
 | 2=>⟨3,[(10,1),(11,1),(20,1),(21,1)]⟩
 |_=>⟨3,[(10,1),(11,1),(12,1),(20,1),(21,1),(22,1)]⟩
structure ZP where
 b:List Nat
 c:Bool
 fs:Bool
 nx:LI
 nx1:LI
 gr:LI
 hf:Bool
def Xp2(c:Bool):Nat:=bif c then 5 else 4
noncomputable def Xv4:Nat->LI
 | 1=>L1 96
 |_=>⟨8,[]⟩
noncomputable def zzO(p:ZP):Nat->List (Nat×O)
 | 0=>(6,Xld (Xp2 p.c))::(8,Xlc p.nx p.gr p.c p.fs)::(10,Xeo (L1 50))::(12,Xen p.b)::(16,Xk8 0 (.int ⟨251,[]⟩))::(18,Xem (L1 51) ⟨44,[]⟩ false)::(22,.wheel [(1,due 0,2),(4,⟨9999,[]⟩,3)] none 3)::Xft
 |t + 1=>(6,Xld (Xp2 p.c))::(8,Xlc p.nx1 p.gr p.c p.fs)::(10,Xeo (L1 50))::(12,Xen p.b)::(16,Xk8 (Int.ofNat (t + 1)) .none)::(18,Xem ⟨4,[]⟩ (Xv4 (t + 1)) true)::(22,.wheel [(4,⟨9999,[]⟩,3),(1,due (t + 1),Int.ofNat (t + 4))] (some (rch (t + 1))) (Int.ofNat (t + 4)))::Xft
noncomputable def lzO(p:ZP)(t:Nat):YG:=[(171,.ref 0),(123,.ref 2),(49,.bytes p.b),(179,.bool p.c),(137,.ref 7),(12,.int (due t)),(83,.bool p.hf)]
def XG(F:XA)(G:Oz)(tc:TO):Mj:=⟨⟨Mg.get,Xr.get,842⟩,F,G,hkA F ⟨tb0,tw0,tf0,tc⟩⟩
def kG(F:XA)(G:Oz)(tc:TO):K:=⟨F,G,Xr.get,842,run (XG F G tc) 60⟩
def fHd:XA:=([(50,1)],-8,true)::([(50,-1)],7,false)::F0
def kHd:K:=kG fHd [] [([8,12,40],L1 80,L1 50)]
def XlJ(x:Xu):St:= @Xu.rec (λ_=>St) ⟨.nil,0⟩ (λ_ s=>s) x
def sHd(b:List Nat)(c:Bool)(rest:List (Int×LI)):Xu:=UM kHd (lT0 b c) (Jb 3 z3L ((3,L1 80)::rest))
noncomputable def WI:Nat->WS
 | 0=>wsA
 | 1=>wsB
 | 2=>wsC
 | 3=>wsD
 | 4=>wsE
 | 5=>wsF
 | 6=>wsG
 |_=>wsH
noncomputable def D1:Nat->JQ
 | 0=>[(50,8)]
 | 1=>[(51,8)]
 | 2=>[(50,12)]
 | 3=>[(50,40),(51,16)]
 | 4=>[(50,40),(51,31)]
 | 5=>[(50,40)]
 |_=>[]
noncomputable def mOf:Nat->Nat
 | 2=>12
 | 3=>16
 | 4=>31
 | 5=>16
 |_=>8
noncomputable def GW(n:Nat):List Nat:=bif Nat.ble n 7 then [6,7] else bif Nat.ble n 15 then [0,1,2,5] else [0,1,2,3,4]
def XjU(n m:Nat):Nat:=bif Nat.ble n 3 then n else 4 * Nat.min (n / 4) (m / 4)
def XjV(n m:Nat)(c:Bool):Nat:=bif c&&(Nat.ble (n - XjU n m) 3&&Nat.ble n m) then n else XjU n m
def XrW(n m:Nat)(c:Bool):Bool:=c&&(Nat.beq (XjV n m c) n&&Nat.blt n m)
def fsF(n:Nat)(c:Bool)(cl:Nat):Bool:=XrW n (mOf cl) c
def flF(n:Nat)(c:Bool)(cl:Nat):Nat:=XjV n (mOf cl) c + bif fsF n c cl then 1 else 0
def nxF(n:Nat)(c:Bool)(cl:Nat):Nat:=(251 + flF n c cl) % 256
def hcF(n:Nat)(c:Bool)(cl:Nat):Nat:=bif Nat.ble (flF n c cl) 15 then 0 else bif Nat.ble (flF n c cl) 17 then 1 else 2
noncomputable def b30:List Nat:=[65,66,67,68,69,70,71,72,73,74,75,76,77,78,79,80,81,82,83,84,85,86,87,88,89,90,91,92,93,94]
def bOf(n:Nat):List Nat:=b30.take n
def nxA(n:Nat)(c:Bool)(cl:Nat):Nat:=bif Nat.ble n 4 then 255 else nxF n c cl
def MM(n:Nat)(c:Bool)(cl:Nat):Nat:=bif Nat.ble n 4 then 4 else flF n c cl
noncomputable def Gx(n:Nat)(c fs:Bool):ZP:=bif Nat.ble n 4 then ⟨bOf n,c,fs,⟨Int.ofNat (nxF n c 6),[]⟩,⟨Int.ofNat (nxF n c 6),[]⟩,⟨Int.ofNat (nxF n c 6),[]⟩,c⟩ else ⟨bOf n,c,fs,L1 90,⟨255,[]⟩,L1 94,false⟩
def Xlo(n:Nat)(c:Bool)(cl:Nat)(rest:List (Int×LI)):Option (List (Int×LI)):=
 GT ((90,Int.ofNat (nxA n c cl))::(94,Int.ofNat (nxA n c cl))::D1 cl) 23 (zzO (Gx n c (fsF n c cl)) 0) (lzO (Gx n c (fsF n c cl)) 0) (Xaz (kG ((WI cl).f++F0) [] [([8,16,31],L1 81,(WI cl).s)]) (lT1 (bOf n) c) (Jb 23 (Ou (WI cl).w) ((3,L1 81)::rest)))
noncomputable def gT(hc:Nat):Oz:=(4,⟨-251,[(90,1)]⟩,⟨256,[]⟩,L1 91)::(4,⟨-251,[(94,1)]⟩,⟨256,[]⟩,L1 95)::(match hc with
 | 0=>[(3,L1 91,⟨2,[]⟩,L1 93)]
 | 1=>[(3,L1 91,⟨2,[]⟩,⟨8,[]⟩)]
 | 2=>[(3,L1 91,⟨2,[]⟩,L1 96)]
 |_=>[])
def aT:Nat->JQ
 | 0=>[(96,8)]
 | 1=>[(96,8)]
 |_=>[]
noncomputable def bnd(x:Nat)(lo hi:Int):XA:=[([(x,1)],-lo,true),([(x,-1)],hi,true),([(x,1)],-(hi + 1),false),([(x,-1)],lo - 1,false)]
noncomputable def XnN:Nat->XA
 | 0=>bnd 93 2 7
 | 2=>bnd 96 9 15
 |_=>[]
noncomputable def Xac(hc:Nat)(t:Nat):XA:=([(92,1)],-(Int.ofNat (t + 1)),true)::(bnd 91 4 31++(bnd 95 4 31++(XnN hc++F0)))
noncomputable def Xgs(t:Nat):XA:=([(92,1)],-(Int.ofNat (t + 1)),false)::(bnd 91 4 31++(bnd 95 4 31++F0))
noncomputable def XhB:Nat->List (Int×LI)->List (Int×LI)
 | 0,r=>(3,L1 20)::(3,L1 30)::(2,L1 40)::r
 | 1,r=>(3,L1 21)::(3,L1 31)::(2,L1 41)::r
 |_,r=>(3,L1 22)::(3,L1 32)::(2,L1 42)::r
def Ie(t:Nat)(n:Nat)(c fs:Bool)(hc:Nat)(rest:List (Int×LI)):Option (List (Int×LI)):=
 GT (aT hc) 23 (zzO (Gx n c fs) (t + 1)) (lzO (Gx n c fs) (t + 1)) (XaJ (kG (Xac hc t) (gT hc) []) (XM (lzO (Gx n c fs) t) 39 (.int ⟨Int.ofNat t,[]⟩)) (Jb 23 (zzO (Gx n c fs) t) (XhB t rest)))
def MK(t:Nat)(n:Nat)(c fs:Bool)(rest:List (Int×LI)):Option (List (Int×LI)):=
 Xgc [(92,Int.ofNat t)] 3 [(1,Zy (Int.ofNat t)),(2,.inst 863 1)] (Xgt (kG (Xgs t) (gT 3) []) (lzO (Gx n c fs) t) (Jb 23 (zzO (Gx n c fs) t) rest))
def dd[DecidableEq α]:List α->List α
 | []=>[]
 |a::r=>bc (decide (a∈r)) (dd r) (a::dd r)
set_option tactic.hygienic true in
theorem Xc2[DecidableEq α] {x:α}:∀{l:List α},x∈l->x∈dd l:=by
 intro ux
 induction ux with
 |cons a r ih=>
  intro h
  show x∈bc (decide (a∈r)) (dd r) (a::dd r)
  by_cases h':a∈r
  ·rw[Qo h']
   exact (Qe h).elim (λe=>ih (e▸h')) ih
  ·rw[Qn h']
   exact (Qe h).elim (λe=>e▸Ql) λh=>Qm _ (ih h)
 |nil=>
  intro v0
  contradiction
def ccl(n:Nat):List (Bool×Nat):=[false,true].flatMap λc=>(GW n).map λcl=>(c,cl)
def tl0(n:Nat):List (Bool×Bool×Nat):=dd ((ccl n).map λx=>(x.1,fsF n x.1 x.2,hcF n x.1 x.2))
def tl1(n:Nat):List (Bool×Bool):=dd ((ccl n).map λx=>(x.1,fsF n x.1 x.2))
def Xkd(n:Nat)(rest:List (Int×LI)):List (Option (List (Int×LI))):=(ccl n).map λx=>Xlo n x.1 x.2 rest
def Xcl(n:Nat)(rest:List (Int×LI)):List (Option (List (Int×LI))):=(tl0 n).map λx=>Ie 0 n x.1 x.2.1 x.2.2 rest
def BR(t n:Nat)(rest:List (Int×LI)):List (Option (List (Int×LI))):=(tl1 n).map λx=>Ie t n x.1 x.2 3 rest
def Mo(t n:Nat)(rest:List (Int×LI)):List (Option (List (Int×LI))):=(tl1 n).map λx=>MK t n x.1 x.2 rest
structure XaR where
 f:Nat
 args:List V
 σ:St
 v:V
 σ':St
def TOK(C:Cx)(n:Nat)(t:XaR):Prop:=∀A,X5 A n->∀Ro Rq (s:Rk) vs,Rp C Ro Rq t.σ s.heap->YH C.ρ Ro t.args vs->∀R:Result->Rk->Prop,
 (N0 C Ro Rq s t.σ' t.v R)->codeAny (model C.prog C.w) A (.call (.ref t.f) ⟨vs,[]⟩) R s
open Classical in
def Nt(t:XaR)(args:List V)(σ:St):Xu:=if args=t.args/\σ=t.σ then .ok t.v t.σ' else .no
theorem NZ{t:XaR}:Nt t t.args t.σ= .ok t.v t.σ':=by unfold Nt;exact if_pos ⟨rfl,rfl⟩
def Xh0(t:XaR)(r:Je):Je:=λf args σ=>match f with
 | .fn a=>bc (Nat.beq a t.f) (Nt t args σ) (r (.fn a) args σ)
 |f=>r f args σ
set_option tactic.hygienic true in
theorem IS{t:XaR}{r:Je}(hr:XB C n r)(ht:TOK C n t):XB C n (Xh0 t r):=by
 intro A g f args σ v σ' Ro Rq s fv vs e R Rf Rs Q h
 induction f with
 |fn a=>
  replace e:bc (Nat.beq a t.f) (Nt t args σ) (r (.fn a) args σ)= .ok v σ':=e
  induction q:Nat.beq a t.f with
  |false=>rw[q] at e;exact hr A g _ _ _ _ _ _ _ s _ _ e R Rf Rs Q h
  |true=>
   rw[q] at e
   replace e:Nt t args σ= .ok v σ':=e
   unfold Nt at e
   split at e
   ·rename_i hc
    obtain ⟨rfl,rfl⟩:=hc
    replace h:=h.eq e
    have:=Qi q
    subst this
    refine Rf.fnE ?_
    exact ht A g _ _ s vs R Rs Q h
   ·injection e
 |_=>exact hr A g _ _ _ _ _ _ _ s _ _ e R Rf Rs Q h
theorem Xqc{k:Int}{srcA:List (Int×LI)}{ads7:List Rn}{own7:Rn->Option Nat}{h7:Heap}{σ7:St}{g:JQ}(R:Rp C Ro Rq (JG srcA k) h0)(K:JK Rq h0 own7 h7)(P:Ro <+:ads7)(R7:Rp C ads7 own7 σ7 h7)(hg:Zi C.ρ g)
  (c:Ue g 3 [(1,Zy k),(2,.inst 863 1)] [] [] σ7=some srcZ):XJ (λ_=>False) Ro Rq h0 Ro Rq h7/\Rp C Ro Rq (Jb 3 [(1,Zy k),(2,.inst 863 1)] srcZ) h7:=by
 have hal3:Ro.length=3:=R.len
 refine YF (JU hg c (Ro:=ads7) (Rq:=own7) (h:=h7)) λw1 w2 w3=>?_
 have R9:=R7.trim w1 (σc:=Jb 3 [(1,Zy k),(2,.inst 863 1)] srcZ) rfl w2
 have ht3:ads7.take 3=Ro:=by
  have:=List.prefix_iff_eq_take.mp P
  rw[hal3] at this;exact this.symm
 rw[ht3] at R9
 refine ⟨⟨Qy,λ_ _ _=>rfl,λb o e hn _=>(K.keep b o e hn).2,K.live⟩,⟨hal3,R.old,R9.keep,R9.big,λi o e=>?_⟩⟩
 refine YO (R9.obj i o e) λa f1 f2 f3=>?_
 have key:∀o0,(JG srcA k).h.get i=some o0->Rq a=some i:=λo0 e0=>by
  refine YO (R.obj i o0 e0) λa0 j1 j2 _=>?_
  rw[f1] at j1;obtain rfl:=QV j1;exact j2
 rcases Gy e with ⟨rfl,rfl⟩ |hm
 ·exact ⟨a,f1,key (.src srcA) rfl,f3⟩
 revert key f1 f3
 refine mE2 hm (λf1 f3 key=>⟨a,f1,key (Zy k) rfl,f3⟩) λhm=>mE2 hm (λf1 f3 key=>⟨a,f1,key (.inst 863 1) rfl,f3⟩) λhm=>?_
 cases hm
theorem BZ{r:Je}(hr:XB C n r){k:Int}{srcA:List (Int×LI)}{args:List V}{g:JQ}(hg:Zi C.ρ g)(c0:Ue g 3 z3L [] [] (JG srcA k)=some srcA)(e:r (.fn f) args (Jb 3 z3L srcA)= .ok (.bool true) σ')
  (cF:Ue g 3 [(1,Zy k),(2,.inst 863 1)] [] [] σ'=some srcZ):TOK C n ⟨f,args,JG srcA k,.bool true,Jb 3 [(1,Zy k),(2,.inst 863 1)] srcZ⟩:=by
 intro A gd Ro Rq s vs R Rs Q h
 have hal3:Ro.length=3:=R.len
 refine YF (JU hg c0 (Ro:=Ro) (Rq:=Rq) (h:=s.heap)) λw1 w2 w3=>?_
 have R1:=R.trim w1 (σc:=Jb 3 z3L srcA) rfl w2
 rw[List.take_of_length_le (by lia)] at R1
 refine hr A gd (.fn f) args _ _ _ _ _ s _ vs e R1 (.fn f) Rs Q λh' kk Rr Rt val G R' V=>?_
 have K:JK Rq s.heap Rt h':=⟨λb o e hn=>⟨(G.same b o e).trans (ZL hn),G.keep b o e (ZL hn) λz=>z⟩,G.live⟩
 obtain ⟨G2,R2⟩:=Xqc R K G.pre R' hg cF
 exact h h' kk Ro Rq val G2 R2 (by refine V.boolE ?_;exact .bool _)
theorem BE(OK:C.Ok)(Rx:C.cells=[])(Ry:C.cellv=[])(hK:C.K=KF P){b:List Nat}{c:Bool}{k:Nat}{srcA:List (Int×LI)}(D:Xkb C n b c k srcA srcZ)(hk1:1<=k)(hk60:k<=60000):
  TOK C (n + 1) ⟨1318,[.ref 0,.ref 2,.bytes b,.bool c],JG srcA k,.bool true,Jb 3 [(1,Zy k),(2,.inst 863 1)] srcZ⟩:=
 λA g Ro Rq s vs R Rs Q h=>Mc OK Rx Ry hK g D hk1 hk60 R Rs Q h
noncomputable def fN:XA:=([(92,1)],-1,true)::([(92,-1)],0,false)::F0
def rN:Je:=run (XG fN [] []) 60
def GU(g:JQ)(z:List (Nat×O))(x:Xu):Option (List (Int×LI)):= @Xu.rec (λ_=>Option (List (Int×LI))) none (λv σ=>bc (isT v) (Ue g 3 z [] [] σ) none) x
def zK(k:Int):List (Nat×O):=[(1,Zy k),(2,.inst 863 1)]
def ks3:List Int:=[1,2,3]
def XfB(n:Nat)(rest:List (Int×LI)):List (Option (List (Int×LI))):=ks3.map λk=>GU [(92,k)] (zK k) (rN (.fn 1325) [.ref 2,.bytes (bOf n)] (Jb 3 z3L rest))
noncomputable def bPr(d:Nat):List Nat:=120::121::122::[40,41,42,43,44,45].take d
def WO(d w:Nat)(rest:List (Int×LI)):List (Option (List (Int×LI))):=ks3.map λk=>GU [(92,k)] (zK k) (rN (.fn 1330) [.ref 0,.ref 2,.bytes (bPr d)] (Jb 3 z3L ((3,⟨Int.ofNat w,[]⟩)::rest)))
def YJ(d:Nat)(rest:List (Int×LI)):List (Option (List (Int×LI))):=WO d 0 rest++(WO d 1 rest++WO d 2 rest)
def XQ(n:Nat)(rest:List (Int×LI)):List (Option (List (Int×LI))):=
 Xkd n rest++(Xcl n rest++(BR 1 n rest++(BR 2 n rest++(Mo 1 n rest++(Mo 2 n rest++(Mo 3 n rest++XfB n rest))))))
def Xn5(v:V):Bool:=rK v false λi=>Nat.beq i 7
def Xnw(g:JQ)(z:List (Nat×O))(x:Xu):Option (List (Int×LI)):= @Xu.rec (λ_=>Option (List (Int×LI))) none (λv σ=>bc (Xn5 v) (Ue g 23 z [] [] σ) none) x
def BP(b:List Nat)(c:Bool)(rest:List (Int×LI)):List (Option (List (Int×LI))):=[0,1,2,3,4,5,6,7].map λcl=>Xnw (D1 cl) (Ou (WI cl).w) (sHd b c rest)
theorem XdP(rest:List (Int×LI))(b:List Nat)(c:Bool):BP b c rest=List.replicate 8 (some rest):=by kernel_rfl
theorem XpO(rest:List (Int×LI)):XQ 1 rest=List.replicate 19 (some rest):=by kernel_rfl
theorem XpP(rest:List (Int×LI)):XQ 2 rest=List.replicate 19 (some rest):=by kernel_rfl
theorem XpQ(rest:List (Int×LI)):XQ 3 rest=List.replicate 19 (some rest):=by kernel_rfl
theorem XpR(rest:List (Int×LI)):XQ 4 rest=List.replicate 19 (some rest):=by kernel_rfl
theorem XpS(rest:List (Int×LI)):XQ 5 rest=List.replicate 19 (some rest):=by kernel_rfl
theorem XpT(rest:List (Int×LI)):XQ 6 rest=List.replicate 19 (some rest):=by kernel_rfl
theorem XpU(rest:List (Int×LI)):XQ 7 rest=List.replicate 19 (some rest):=by kernel_rfl
theorem XpV(rest:List (Int×LI)):XQ 8 rest=List.replicate 29 (some rest):=by kernel_rfl
theorem XpW(rest:List (Int×LI)):XQ 9 rest=List.replicate 29 (some rest):=by kernel_rfl
theorem XlN(rest:List (Int×LI)):XQ 10 rest=List.replicate 29 (some rest):=by kernel_rfl
theorem XlO(rest:List (Int×LI)):XQ 11 rest=List.replicate 29 (some rest):=by kernel_rfl
theorem XlP(rest:List (Int×LI)):XQ 12 rest=List.replicate 29 (some rest):=by kernel_rfl
theorem XlQ(rest:List (Int×LI)):XQ 13 rest=List.replicate 29 (some rest):=by kernel_rfl
theorem XlR(rest:List (Int×LI)):XQ 14 rest=List.replicate 29 (some rest):=by kernel_rfl
theorem XlS(rest:List (Int×LI)):XQ 15 rest=List.replicate 29 (some rest):=by kernel_rfl
theorem XlT(rest:List (Int×LI)):XQ 16 rest=List.replicate 33 (some rest):=by kernel_rfl
theorem XlU(rest:List (Int×LI)):XQ 17 rest=List.replicate 33 (some rest):=by kernel_rfl
theorem XlV(rest:List (Int×LI)):XQ 18 rest=List.replicate 33 (some rest):=by kernel_rfl
theorem XlW(rest:List (Int×LI)):XQ 19 rest=List.replicate 33 (some rest):=by kernel_rfl
theorem XlX(rest:List (Int×LI)):XQ 20 rest=List.replicate 34 (some rest):=by kernel_rfl
theorem XlY(rest:List (Int×LI)):XQ 21 rest=List.replicate 34 (some rest):=by kernel_rfl
theorem XlZ(rest:List (Int×LI)):XQ 22 rest=List.replicate 34 (some rest):=by kernel_rfl
theorem Xl0(rest:List (Int×LI)):XQ 23 rest=List.replicate 34 (some rest):=by kernel_rfl
theorem Xl1(rest:List (Int×LI)):XQ 24 rest=List.replicate 34 (some rest):=by kernel_rfl
theorem Xl2(rest:List (Int×LI)):XQ 25 rest=List.replicate 34 (some rest):=by kernel_rfl
theorem Xl3(rest:List (Int×LI)):XQ 26 rest=List.replicate 34 (some rest):=by kernel_rfl
theorem Xl4(rest:List (Int×LI)):XQ 27 rest=List.replicate 34 (some rest):=by kernel_rfl
theorem Xl5(rest:List (Int×LI)):XQ 28 rest=List.replicate 34 (some rest):=by kernel_rfl
theorem Xl6(rest:List (Int×LI)):XQ 29 rest=List.replicate 34 (some rest):=by kernel_rfl
theorem Xl7(rest:List (Int×LI)):XQ 30 rest=List.replicate 34 (some rest):=by kernel_rfl
theorem Xhe(rest:List (Int×LI)):YJ 0 rest=List.replicate 9 (some rest):=by kernel_rfl
theorem Xhf(rest:List (Int×LI)):YJ 1 rest=List.replicate 9 (some rest):=by kernel_rfl
theorem Xhg(rest:List (Int×LI)):YJ 2 rest=List.replicate 9 (some rest):=by kernel_rfl
theorem Xhh(rest:List (Int×LI)):YJ 3 rest=List.replicate 9 (some rest):=by kernel_rfl
theorem Xhi(rest:List (Int×LI)):YJ 4 rest=List.replicate 9 (some rest):=by kernel_rfl
theorem Xhj(rest:List (Int×LI)):YJ 5 rest=List.replicate 9 (some rest):=by kernel_rfl
theorem Xhk(rest:List (Int×LI)):YJ 6 rest=List.replicate 9 (some rest):=by kernel_rfl
def Xcc(p:Nat->Prop):Nat->Nat->Prop
 |_,0=>True
 |i,n + 1=>p i/\Xcc p (i + 1) n
theorem Xcc.get{p:Nat->Prop}:∀{n i j:Nat},Xcc p i n->i<=j->j < i + n->p j:=by
 intro n
 induction n with
 |zero=>exact λ{i j} _ h1 h2=>absurd h1 (Nat.not_le_of_gt h2)
 |succ n ih=>
  intro i j h h1 h2
  rcases Nat.eq_or_lt_of_le h1 with e |e
  ·rw[←e];exact h.1
  ·exact ih h.2 e (by rw[QX];exact h2)
theorem Xhv(rest:List (Int×LI))(n:Nat)(h1:1<=n)(h2:n<=30):∃m,XQ n rest=List.replicate m (some rest):=
 Xcc.get (p:=λn=>∃m,XQ n rest=List.replicate m (some rest)) (i:=1) (n:=30) ⟨⟨_,XpO rest⟩,⟨_,XpP rest⟩,⟨_,XpQ rest⟩,⟨_,XpR rest⟩,⟨_,XpS rest⟩,⟨_,XpT rest⟩,⟨_,XpU rest⟩,⟨_,XpV rest⟩,⟨_,XpW rest⟩,⟨_,XlN rest⟩,⟨_,XlO rest⟩,⟨_,XlP rest⟩,⟨_,XlQ rest⟩,⟨_,XlR rest⟩,⟨_,XlS rest⟩,⟨_,XlT rest⟩,⟨_,XlU rest⟩,⟨_,XlV rest⟩,⟨_,XlW rest⟩,⟨_,XlX rest⟩,⟨_,XlY rest⟩,⟨_,XlZ rest⟩,⟨_,Xl0 rest⟩,⟨_,Xl1 rest⟩,⟨_,Xl2 rest⟩,⟨_,Xl3 rest⟩,⟨_,Xl4 rest⟩,⟨_,Xl5 rest⟩,⟨_,Xl6 rest⟩,⟨_,Xl7 rest⟩,trivial⟩ h1 (Nat.lt_succ_of_le h2)
theorem XbS(rest:List (Int×LI))(d:Nat)(h:d<=6):∃m,YJ d rest=List.replicate m (some rest):=
 Xcc.get (p:=λd=>∃m,YJ d rest=List.replicate m (some rest)) (i:=0) (n:=7) ⟨⟨_,Xhe rest⟩,⟨_,Xhf rest⟩,⟨_,Xhg rest⟩,⟨_,Xhh rest⟩,⟨_,Xhi rest⟩,⟨_,Xhj rest⟩,⟨_,Xhk rest⟩,trivial⟩ (Rg _) (Nat.lt_succ_of_le h)
noncomputable abbrev TK(C:Cx):HeapKind C.prog C.w (List Str):=tupleKind (strKind C.prog C.w)
noncomputable abbrev P3:=Str×Str×Str
inductive XR:List (List Str×Rn×Rm)->List P3->Prop
 |nil:XR [] []
 |cons {x y z a t xs P:_}:XR xs P->XR (([x,y],a,.str z t)::xs) ((x,y,z)::P)
theorem XR.snoc{P:List P3}(h:XR xs P){x y z:Str}:XR (xs++[([x,y],a,.str z t)]) (P++[(x,y,z)]):=by
 induction h with
 |nil=>exact .cons .nil
 |cons _ ih=>exact .cons ih
def Zv(p:P3):List Str:=[p.1,p.2.1]
theorem XR.keys{P:List P3}(h:XR xs P):xs.map (·.1)=P.map Zv:=by
 induction h with
 |nil=>rfl
 |cons _ ih=>exact congrArg (_::·) ih
theorem Mq{k:List Str}(h:k∉xs.map (·.1)):atKey xs k=none:=by
 unfold atKey
 rw[List.find?_eq_none.mpr];· rfl
 intro x hx
 simp only [decide_eq_true_eq]
 rintro rfl
 exact h (QC hx)
noncomputable def ZW:List P3->Str->Str->Option Str
 | [],_,_=>none
 |(x,y,z)::r,a,b=>if x=a/\y=b then some z else ZW r a b
theorem XR.look{P:List P3}(h:XR xs P)(a b:Str):match ZW P a b with
  |some z=>∃t,((atKey xs [a,b]).map (·.2))=some (.str z t)
  |none=>atKey xs [a,b]=none:=by
 induction h with
 |nil=>exact rfl
 | @cons x y z ad t xs P _ ih=>
  unfold ZW
  by_cases hk:x=a/\y=b
  ·obtain ⟨rfl,rfl⟩:=hk
   rw[if_pos ⟨rfl,rfl⟩]
   exact ⟨t,by simp [atKey]⟩
  ·rw[if_neg hk]
   have hne:¬[x,y]=[a,b]:=λe=>hk (by cases e;exact ⟨rfl,rfl⟩)
   have e:atKey (([x,y],ad,.str z t)::xs) [a,b]=atKey xs [a,b]:=by
    unfold atKey
    rw[List.find?_cons_of_neg (by simpa using hne)]
   rw[e]
   exact ih
def Xqg(y:Rm)(k:Str->Bool):Bool:=match y with
 | .str s _=>k s
 |_=>false
@[elab_as_elim] theorem Xqh{y:Rm}{k:Str->Bool}{m:Rm->Prop}(h:Xqg y k=true)(f:∀b t,k b=true->m (.str b t)):m y:=by
 cases y<;>first |exact f _ _ h |exact ff h
def Xmm(g x:Str):Bool:=oc (XC gtL g) false λp=>Xqg p.2 λz=>z == x
def Xer(e:Expr)(k:Str->Option α):Option α:=XnV e (λc _ _=>match c with
  | .str y=>k y
  |_=>none) none
set_option tactic.hygienic true in
@[elab_as_elim] theorem Xh1{k:Str->Option α}{z:α}{m:Expr->Prop}(h:Xer e k=some z)(f:∀y kk p,k y=some z->m (.Constant (.str y) kk p)):m e:=by
 cases e<;>try (exact Xx h;done)
 rename_i c kk p
 induction c<;>first |exact f _ _ _ h |exact Xx h
def Xpi(sc:Scope)(p:P3)(k v:Expr):Option Unit:=Xav k λes _ _=>on2 es λa b=>UX a λg _=>Xer b λy=>UX v λg2 _=>
 J7 (JN (XC sc.names g)&&(JN (XC sc.names g2)&&(Xmm g p.1&&(y == p.2.1&&Xmm g2 p.2.2)))) (some ())
def Nj(sc:Scope)(p:P3)(k v:Expr):Bool:=(Xpi sc p k v).isSome
def Ym(sc:Scope):List P3->List (Option Expr)->List Expr->Bool
 | [],[],[]=>true
 |p::P,some k::ks,v::vs=>Nj sc p k v&&Ym sc P ks vs
 |_,_,_=>false
theorem Xey{g:Prop}(h:Ym sc [] ks es=true)(f:ks=[]->es=[]->g):g:=by
 induction ks with
 |nil=>induction es with
  |nil=>exact f rfl rfl
  |cons _ _ _=>exact ff h
 |cons a _ _=>induction a<;>exact ff h
theorem Xex{p:P3}{Ps:List P3}{g:Prop}(h:Ym sc (p::Ps) ks es=true)(f:∀k ks' e es',ks=some k::ks'->es=e::es'->Nj sc p k e=true->Ym sc Ps ks' es'=true->g):g:=by
 induction ks with
 |nil=>exact ff h
 |cons a ks _=>induction a with
  |none=>exact ff h
  |some k=>induction es with
   |nil=>exact ff h
   |cons e es _=>exact b2 (show (Nj sc p k e&&Ym sc Ps ks es)=true from h) (f k ks e es rfl rfl)
set_option tactic.hygienic true in
theorem Ky(O:C.Ok)(hK:C.K=KF P)(X:Yu C sc [] [] L env)(F:Fr C.H0 L s.heap m){g x:Str}(hg:JN (XC sc.names g)=true)(hs:Xmm g x=true)
  (h:∀t,Q (.str x t) s):wpAny (model C.prog C.w) A (eval (.Name g p) env) Q E s:=by
 refine Bi hs λp hq hs=>?_
 obtain ⟨u,y⟩:=p
 revert hq
 refine Xqh (y:=y) hs λz t hs hq=>?_
 ·have hz:=eq_of_beq hs
  subst hz
  refine YF ((JO hK).gl g u (.str z t) hq) λg1 g2 g3=>?_
  exact Gf X.l F O.inK O.top g1 (h t) (X.kind (Wa hg)) g3
theorem Xap(O:C.Ok)(hK:C.K=KF P)(X:Yu C sc [] [] L env)(F:Fr C.H0 L s.heap m){ke ve:Expr}{p:P3}(hc:Nj sc p ke ve=true)
  (h:∀t1 t2 tk,Q (.ref s.heap.objs.size) {s with heap:=s.heap.push {cls:= .type "tuple",data:= .seq #[.str p.1 t1,.str p.2.1 t2]},toks:=tk}):wpAny (model C.prog C.w) A (eval ke env) Q E s:=by
 refine Exists.elim (Option.isSome_iff_exists.mp hc) λu hc=>Xmx hc λes k1 p1 hc=>KG hc λa b hc=>N6 hc λg p1 hc=>Xh1 hc λy kk p2 hc=>N6 hc λg2 p4 hc=>Zz hc λhc _=>b5 hc λc1 c2 c3 c4 c5=>?_
 ·have hy:=eq_of_beq c4
  refine Tuple_ ?_
  rw[XX rfl]
  refine spliced_cons (Ky O hK X F c1 c3 λt1=>?_)
  rw[XX rfl]
  refine spliced_cons ?_
  refine Constant_str (k:=kk) (pos:=p2) ?_
  refine args_nil ?_
  subst hy
  exact wpAny_newTuple (s:={s with toks:=s.toks + 1}) (h t1 s.toks (s.toks + 1))
theorem XaK(O:C.Ok)(hK:C.K=KF P)(X:Yu C sc [] [] L env)(F:Fr C.H0 L s.heap m){ke ve:Expr}{p:P3}(hc:Nj sc p ke ve=true)
  (h:∀t,Q (.str p.2.2 t) s):wpAny (model C.prog C.w) A (eval ve env) Q E s:=by
 exact Exists.elim (Option.isSome_iff_exists.mp hc) λu hc=>Xmx hc λes k1 p1 hc=>KG hc λa b hc=>N6 hc λg p1 hc=>Xh1 hc λy kk p2 hc=>N6 hc λg2 p4 hc=>Zz hc λhc _=>b5 hc λc1 c2 c3 c4 c5=>Ky O hK X F c2 c5 h
theorem NL{x y:Str}{t1 t2:Tok}:(TK C).is (h.push {cls:= .type "tuple",data:= .seq #[.str x t1,.str y t2]}) [x,y] h.objs.size:=
 ⟨_,_,_,QA _ rfl,rfl,rfl,.cons (strKind_is _ _ _ _) (.cons (strKind_is _ _ _ _) .nil)⟩
theorem MZ{o:Obj}{k:List Str}(x:(TK C).is h k a):(TK C).is (h.push o) k a:=by
 refine x32 x λob items n ho r=>?_
 exact ⟨ob,items,n,Qj _ ho,r⟩
inductive PV(C:Cx)(h:Heap):List P3->List (Rm×Rm)->Prop
 |nil:PV C h [] []
 |cons {p:P3} {a t P vs}:(TK C).is h (Zv p) a->PV C h P vs->PV C h (p::P) ((.ref a,.str p.2.2 t)::vs)
theorem DW(O:C.Ok)(hK:C.K=KF P)(X:Yu C sc [] [] L env):∀{Ps:List P3}{ks:List (Option Expr)}{es:List Expr}{s:Rk},Ym sc Ps ks es=true->Fr C.H0 L s.heap m->∀{Q:List (Rm×Rm)->Rk->Prop},
  (∀h' tk vs,Fr C.H0 L h' m->(∀b o,s.heap.get? b=some o->h'.get? b=some o)->PV C h' Ps vs->Q vs {s with heap:=h',toks:=tk})->wpAny (model C.prog C.w) A (evalPairs (pairTrees ks es env pos)) Q E s:=by
 intro Ps
 induction Ps with
 |nil=>
  intro ks es s hc F Q h
  refine Xey hc λe1 e2=>?_
  rw[e1,e2]
  exact Qh (h s.heap s.toks [] F (λ_ _ e=>e) .nil)
 |cons p Ps ih=>
  intro ks es s hc F Q h
  refine Xex hc λk ks' e es' e1 e2 c1 c2=>?_
  subst e1 e2
  show wpAny _ _ (do
   let kv ←eval k env
   let vv ←holding [kv] (do let x ←eval e env;standAt pos;pure x)
   return (kv,vv)::(←holding [kv,vv] (evalPairs (pairTrees ks' es' env pos)))) _ _ _
  refine Qg (Xap O hK X F c1 λt1 t2 tk=>?_)
  refine Qg (QB (Qg (XaK (s:={s with heap:=s.heap.push {cls:= .type "tuple",data:= .seq #[.str p.1 t1,.str p.2.1 t2]},toks:=tk}) O hK X (F.push _) c1 λt=>?_)))
  refine Qg (wpAny_standAt (Qh ?_))
  refine Qg (QB ?_)
  refine ih (s:={s with heap:=s.heap.push {cls:= .type "tuple",data:= .seq #[.str p.1 t1,.str p.2.1 t2]},toks:=tk}) c2 (F.push _) λh' tk' vs F' keep' pv=>?_
  refine Qh (h h' tk' _ F' (λb o q=>keep' b o (Qj _ q)) (.cons ?_ pv))
  refine x32 (NL (C:=C) (h:=s.heap) (x:=p.1) (y:=p.2.1) (t1:=t1) (t2:=t2)) λob items n ho r=>?_
  exact ⟨ob,items,n,keep' _ _ ho,r⟩
theorem XaF(hu:A.units < cLine){D:List P3}{p:P3}(hx:XR xs D)(hn:Zv p∉D.map Zv)(hl:D.length<=60000)(hk:(TK C).is s.heap (Zv p) a)(hd:s.heap.DictOfH (TK C) d xs)
  {Q:Unit->Rk->Prop}(h:∀h' tk xs',h'.DictOfH (TK C) d xs'->XR xs' (D++[p])->Heap.SameBut d s.heap h'->Q () {s with heap:=h',toks:=tk}):wpAny (model C.prog C.w) A (dictSet d (.ref a) (.str p.2.2 t)) Q E s:=by
 have hlen:xs.length=D.length:=by
  have:=congrArg List.length hx.keys
  simpa using this
 refine wpAny_dictSet_heap (knd:=TK C) (hsz:=by rw[hlen];unfold sizeLine;lia) hu hk hd λh' hd' hs=>?_
 rw[storedH_new (Mq (by rw[hx.keys];exact hn))] at hd'
 exact h h' _ _ hd' hx.snoc hs
theorem PV.same{o:Obj}{es ep}{P:List P3}{vs:List (Rm×Rm)}(x:PV C h P vs)(ho:h.get? d=some o)(hd:o.data= .dict es ep)(hs:Heap.SameBut d h h'):PV C h' P vs:=by
 induction x with
 |nil=>exact .nil
 |cons k _ ih=>exact .cons ((TK C).keeps k ho hd hs) ih
theorem PV.nilE{vs:List (Rm×Rm)}{g:Prop}(x:PV C h [] vs)(f:vs=[]->g):g:=by
 cases x;exact f rfl
theorem PV.consE{p:P3}{P:List P3}{ws:List (Rm×Rm)}{g:Prop}(x:PV C h (p::P) ws)(f:∀a t vs,ws=(.ref a,.str p.2.2 t)::vs->(TK C).is h (Zv p) a->PV C h P vs->g):g:=by
 cases x with
 |cons k r=>exact f _ _ _ rfl k r
theorem K2(hu:A.units < cLine)(hdL:d≠L)(hd0:C.H0.get? d=none):∀{Ps D:List P3}{xs:List (List Str×Rn×Rm)}{vs:List (Rm×Rm)}{s:Rk},Fr C.H0 L s.heap m->PV C s.heap Ps vs->s.heap.DictOfH (TK C) d xs->XR xs D->((D++Ps).map Zv).Nodup->(D++Ps).length<=60000->
  ∀{Q:PUnit->Rk->Prop},(∀h' tk xs',Fr C.H0 L h' m->h'.DictOfH (TK C) d xs'->XR xs' (D++Ps)->Heap.SameBut d s.heap h'->Q PUnit.unit {s with heap:=h',toks:=tk})->wpAny (model C.prog C.w) A (storeAll d vs) Q E s:=by
 intro Ps
 induction Ps with
 |nil=>
  intro D xs vs s F pv hd hx hn hl Q h
  refine pv.nilE λe=>?_
  rw[e]
  unfold storeAll
  rw[List.forIn_nil]
  exact Qh (h s.heap s.toks xs F hd (by rw[List.append_nil];exact hx) ⟨rfl,λ_ _=>rfl⟩)
 |cons p Ps ih=>
  intro D xs vs s F pv hd hx hn hl Q h
  refine pv.consE λa t vs' e hk pv'=>?_
  rw[e]
  unfold storeAll
  rw[List.forIn_cons]
  have hn':(((D++[p])++Ps).map Zv).Nodup:=by rw[List.append_assoc];exact hn
  have hp:Zv p∉D.map Zv:=by
   rw[QG,List.nodup_append] at hn
   intro hm
   exact hn.2.2 _ hm (Zv p) (by simp) rfl
  refine Qg (Qg (XaF hu hx hp (by rw[Qw] at hl;lia) hk hd λh' tk xs' hd' hx' hs=>Qh ?_))
  refine x34 hd λo es ep ho hc hdd _=>?_
  refine ih (s:={s with heap:=h',toks:=tk}) (F.change hs hdL hd0) (pv'.same ho hdd hs) hd' hx' hn' (by rw[List.append_assoc];exact hl) λh2 tk2 xs2 F2 hd2 hx2 hs2=>?_
  exact h h2 tk2 xs2 F2 hd2 (by rw[List.append_assoc] at hx2;exact hx2) (hs.trans hs2)
theorem Xgy(f:(Option (Sem Rm)×Sem Rm)->(Option Rn×List (Sem Rm×Sem Rm))->Sem (ForInStep (Option Rn×List (Sem Rm×Sem Rm))))(tl:List (Option (Sem Rm)×Sem Rm))
  (hf:∀(p:Sem Rm×Sem Rm)(run:List (Sem Rm×Sem Rm)),run.length + 1 < 17->f (some p.1,p.2) (none,run)=pure (.yield (none,run++[p]))):
  ∀(items run:List (Sem Rm×Sem Rm)),run.length + items.length < 17->forIn (items.map (λp=>(some p.1,p.2))++tl) ((none:Option Rn),run) f=forIn tl (none,run++items) f:=by
 intro ux
 induction ux with
 |nil=>
  intro run _
  simp
 |cons p rest ih=>
  intro run h
  rw[QJ,List.cons_append,List.forIn_cons,hf p run (by simp at h;lia),pure_bind]
  have:=ih (run++[p]) (by simp at h ⊢;lia)
  simpa using this
theorem XkA(A0:List (Sem Rm×Sem Rm))(h:A0.length=16)(p q:Sem Rm×Sem Rm):dictDisplay (A0.map (λp=>(some p.1,p.2))++[(some p.1,p.2),(some q.1,q.2)])=(do
  let d ←subDict (A0++[p])
  let sub ←holding [.ref d] (subDict [q])
  (holding [.ref d,.ref sub] (mergeMapping d (.ref sub) false)).onRaise λx=>do let _ ←holding [.ref d,x] (runValue (.builtin "proto.let_go" {}))
  pure (.ref d)):=by
 unfold dictDisplay
 dsimp only
 rw[Xgy _ _ (λp run h=>by
  have hne:((run++[(p.1,p.2)]).length == 17)=false:=by simp;lia
  simp only [hne,Bool.false_eq_true,if_false]) A0 [] (by simp;lia)]
 simp [h]
theorem Xad(F:Fr C.H0 L h m):h.objs.size≠L/\C.H0.get? h.objs.size=none:=by
 constructor
 ·obtain ⟨o,ho⟩:=N4 F
  exact λe=>Qz (Qu ho) e.symm
 ·induction q:C.H0.get? h.objs.size with
  |none=>rfl
  |some o=>exact absurd (Qu q) (Nat.not_lt.mpr (JS F))
def Dz(C:Cx)(L:Rn)(m:Str->Option Rm)(s:Rk)(Ps:List P3)(Q:Rn->Rk->Prop):Prop:=
 ∀h' tk d xs,Fr C.H0 L h' m->(∀b o,s.heap.get? b=some o->h'.get? b=some o)->h'.DictOfH (TK C) d xs->XR xs Ps->d≠L->C.H0.get? d=none->s.heap.objs.size<=d->Q d {s with heap:=h',toks:=tk}
theorem Ib(O:C.Ok)(hK:C.K=KF P)(X:Yu C sc [] [] L env)(hu:A.units < cLine){Ps:List P3}(hc:Ym sc Ps ks es=true)(hn:(Ps.map Zv).Nodup)(hl:(pairTrees ks es env pos).length<=15)(hl2:Ps.length<=60000)
  (F:Fr C.H0 L s.heap m){Q:Rn->Rk->Prop}(h:Dz C L m s Ps Q):wpAny (model C.prog C.w) A (subDict (pairTrees ks es env pos)) Q E s:=by
 obtain ⟨f1,f2⟩:=Xad F
 refine wpAny_subDict_any hl (DW (s:={s with heap:=s.heap.push {cls:= .type "dict",data:= .dict #[]}}) O hK X hc (F.push _) λh1 tk1 vs F1 keep1 pv=>?_)
 have hd0:(s.heap.push {cls:= .type "dict",data:= .dict #[]}).DictOfH (TK C) s.heap.objs.size []:=Heap.DictOfH.new _
 refine x36 hd0 λo es' ep ho hx1 hx2 hx3 _ hx5=>?_
 have hd1:h1.DictOfH (TK C) s.heap.objs.size []:=⟨o,es',ep,keep1 _ _ ho,hx1,hx2,hx3,nofun,hx5⟩
 refine K2 (s:={s with heap:=h1,toks:=tk1}) hu f1 f2 F1 pv hd1 .nil (by simpa using hn) (by simpa using hl2) λh2 tk2 xs2 F2 hd2 hx hs=>?_
 refine h h2 tk2 _ xs2 F2 (λb o e=>?_) hd2 (by simpa using hx) f1 f2 (QS _)
 exact (hs.2 b (Qz (Qu e))).trans (keep1 b o (Qj _ e))
noncomputable def UP(d:Rn)(x:Sem Rm×Sem Rm)(_:PUnit):Sem (ForInStep PUnit):=do
 let kv ←x.1
 let vv ←holding [kv] x.2
 holding [kv,vv] (dictSet d kv vv)
 pure (ForInStep.yield PUnit.unit)
theorem XgW(O:C.Ok)(hK:C.K=KF P)(X:Yu C sc [] [] L env)(hu:A.units < cLine)(hdL:d≠L)(hd0:C.H0.get? d=none):∀{Ps D:List P3}{ks:List (Option Expr)}{es:List Expr}{xs:List (List Str×Rn×Rm)}{s:Rk},Ym sc Ps ks es=true->Fr C.H0 L s.heap m->
  s.heap.DictOfH (TK C) d xs->XR xs D->((D++Ps).map Zv).Nodup->(D++Ps).length<=60000->∀{Q:PUnit->Rk->Prop},
  (∀h' tk xs',Fr C.H0 L h' m->h'.DictOfH (TK C) d xs'->XR xs' (D++Ps)->(∀b o,b≠d->s.heap.get? b=some o->h'.get? b=some o)->Q PUnit.unit {s with heap:=h',toks:=tk})->wpAny (model C.prog C.w) A (forIn (pairTrees ks es env pos) PUnit.unit (UP d)) Q E s:=by
 intro Ps
 induction Ps with
 |nil=>
  intro D ks es xs s hc F hd hx _ _ Q h
  refine Xey hc λe1 e2=>?_
  rw[e1,e2]
  show wpAny _ _ (forIn [] PUnit.unit (UP d)) _ _ _
  rw[List.forIn_nil]
  exact Qh (h s.heap s.toks xs F hd (by rw[List.append_nil];exact hx) λ_ _ _ e=>e)
 |cons p Ps ih=>
  intro D ks0 es0 xs s hc F hd hx hn hl Q h
  refine Xex hc λk ks e es e1 e2 c1 c2=>?_
  subst e1 e2
  have hn':(((D++[p])++Ps).map Zv).Nodup:=by rw[List.append_assoc];exact hn
  have hp:Zv p∉D.map Zv:=by
   rw[QG,List.nodup_append] at hn
   intro hm
   exact hn.2.2 _ hm (Zv p) (by simp) rfl
  show wpAny _ _ (forIn ((eval k env,do let x ←eval e env;standAt pos;pure x)::pairTrees ks es env pos) PUnit.unit (UP d)) _ _ _
  rw[List.forIn_cons]
  refine Qg ?_
  unfold UP
  refine Qg (Xap O hK X F c1 λt1 t2 tk=>?_)
  refine Qg (QB (Qg (XaK (s:={s with heap:=s.heap.push {cls:= .type "tuple",data:= .seq #[.str p.1 t1,.str p.2.1 t2]},toks:=tk}) O hK X (F.push _) c1 λt=>?_)))
  refine wpAny_standAt (Qh ?_) |> Qg
  refine x36 hd λo es' ep ho hx1 hx2 hx3 hx4 hx5=>?_
  have hd1:(s.heap.push {cls:= .type "tuple",data:= .seq #[.str p.1 t1,.str p.2.1 t2]}).DictOfH (TK C) d xs:=⟨o,es',ep,Qj _ ho,hx1,hx2,hx3,λx hx=>MZ (hx4 x hx),hx5⟩
  refine Qg (QB (XaF (s:={s with heap:=s.heap.push {cls:= .type "tuple",data:= .seq #[.str p.1 t1,.str p.2.1 t2]},toks:=tk}) hu hx hp (by rw[Qw] at hl;lia) (NL (x:=p.1) (y:=p.2.1)) hd1 λh' tk' xs' hd' hx' hs=>Qh ?_))
  dsimp only
  refine ih (s:={s with heap:=h',toks:=tk'}) c2 ((F.push _).change hs hdL hd0) hd' hx' hn' (by rw[List.append_assoc];exact hl) λh2 tk2 xs2 F2 hd2 hx2 keep2=>?_
  refine h h2 tk2 xs2 F2 hd2 (by rw[List.append_assoc] at hx2;exact hx2) λb o' hb e=>keep2 b o' hb ?_
  exact (hs.2 b hb).trans (Qj _ e)
theorem Bz(O:C.Ok)(hK:C.K=KF P)(X:Yu C sc [] [] L env)(hu:A.units < cLine){Ps:List P3}(hc:Ym sc Ps ks es=true)(hn:(Ps.map Zv).Nodup)(hl:¬(pairTrees ks es env pos).length<=15)(hl2:Ps.length<=60000)
  (F:Fr C.H0 L s.heap m){Q:Rn->Rk->Prop}(h:Dz C L m s Ps Q):wpAny (model C.prog C.w) A (subDict (pairTrees ks es env pos)) Q E s:=by
 obtain ⟨f1,f2⟩:=Xad F
 unfold subDict
 refine Qg (wpAny_alloc ?_)
 refine Qg (QB ?_)
 rw[if_neg hl]
 refine Qg (wpAny_rule ?_)
 show wpAny _ _ (forIn (pairTrees ks es env pos) PUnit.unit (UP s.heap.objs.size)>>=λ_=>_) _ _ _
 refine Qg ?_
 refine XgW (s:={s with heap:=s.heap.push {cls:= .type "dict",data:= .dict #[]}}) O hK X hu f1 f2 hc (F.push _) (Heap.DictOfH.new _) .nil (by simpa using hn) (by simpa using hl2) λh2 tk2 xs2 F2 hd2 hx keep=>?_
 refine Qh (Qh (h h2 tk2 _ xs2 F2 (λb o e=>?_) hd2 (by simpa using hx) f1 f2 (QS _)))
 exact keep b o (Qz (Qu e)) (Qj _ e)
theorem NH:typeLookup (.type "dict") "__iter__"=pure (some (.builtin "dict.__iter__")):=by rw[typeLookup_type,QL];kernel_rfl
theorem Xc3:isSubtype (.type "dict") (.type "dict")=pure true:=by rw[isSubtype_type];kernel_rfl
theorem Xhm(hu:A.units < cLine){k:List Str}{v:Rm}(hk:(TK C).is s.heap k a)(hd:s.heap.DictOfH (TK C) d xs)(hn:k∉xs.map (·.1))(hl:xs.length<=60000)
  {Q:Unit->Rk->Prop}(h:∀h',h'.DictOfH (TK C) d (xs++[(k,a,v)])->Heap.SameBut d s.heap h'->Q () {s with heap:=h'}):wpAny (model C.prog C.w) A (dictPut d ((TK C).hash k) (.ref a) v) Q E s:=by
 refine x36 hd λo es ep ho hc hdd he his hnd=>?_
 unfold dictPut
 refine Qg (wpAny_dictFind_heap hu hk ho hdd he his hnd (λhno=>?_) λj p hj=>?_)
 ·refine wpAny_updateDictKeys (hz:=by have e:=size_of_entries he;unfold sizeLine;lia) ho hdd (h _ ⟨_,_,ep + 1,Heap.get?_update_self _ ho (Obj.isFreed_of_dict (Obj.data_mapDictKeys hdd _)),hc.mapDictKeys _,Obj.data_mapDictKeys hdd _,?_,?_,?_⟩ (Heap.SameBut.update ..))
  ·simp [he,entryOfKey]
  ·intro x hx
   rcases List.mem_append.mp hx with hx |hx
   ·exact (TK C).keeps (his x hx) ho hdd (Heap.SameBut.update ..)
   ·rw[List.mem_singleton.mp hx]
    exact (TK C).keeps hk ho hdd (Heap.SameBut.update ..)
  ·rw[QG,List.nodup_append]
   refine ⟨hnd,by simp,λx hx y hy=>?_⟩
   rw[QJ,List.map_nil,List.mem_singleton] at hy
   subst hy
   exact λe=>hn (e▸hx)
 ·exact absurd (QC (f:=(·.1)) (QN hj)) hn
theorem XbG(hu:A.units < cLine){sub:Rn}{ys:List (List Str×Rn×Rm)}{D:List P3}{p:P3}(hdL:d≠L)(hd0:C.H0.get? d=none)(F:Fr C.H0 L s.heap m)(hne:d≠sub)(hsys:(sub == sysModules)=false)(hd:s.heap.DictOfH (TK C) d xs)(hx:XR xs D)(hD:D≠[])(hl:D.length<=60000)
  (hs:s.heap.DictOfH (TK C) sub ys)(hy:XR ys [p])(hn:Zv p∉D.map Zv){Q:Unit->Rk->Prop}
  (h:∀h' xs',Fr C.H0 L h' m->h'.DictOfH (TK C) d xs'->XR xs' (D++[p])->Heap.SameBut d s.heap h'->Q () {s with heap:=h'}):wpAny (model C.prog C.w) A (mergeMapping d (.ref sub) false) Q E s:=by
 obtain ⟨x,y,z⟩:=p
 cases hy with
 | @cons _ _ _ a t ys' P' hy'=>
  cases hy'
  have hlen:xs.length=D.length:=by
   have:=congrArg List.length hx.keys
   simpa using this
  refine x36 (id hd) λo es ep ho hc hdd he his hnd=>?_
  refine x36 (id hs) λo2 es2 ep2 ho2 hc2 hdd2 he2 his2 hnd2=>?_
  have hes:es.isEmpty=false:=by
   have:=size_of_entries he
   have h0:D.length≠0:=λq=>hD (List.length_eq_zero_iff.mp q)
   induction q:es.isEmpty with
   |false=>rfl
   |true=>rw[Array.isEmpty_iff_size_eq_zero] at q;lia
  have he2':es2=#[⟨(TK C).hash [x,y],.ref a,.str z t⟩]:=by
   apply Array.ext'
   rw[he2];rfl
  subst he2'
  have hT:s.TypeIs (.ref sub) "dict":=⟨_,ho2,hc2.1⟩
  unfold mergeMapping
  refine Qg (wpAny_isInstance hT Xc3 ?_)
  rw[if_pos rfl]
  refine Qg (wpAny_specialOf hT NH ?_)
  refine Qg (QF (a:=true) (by simp) ?_)
  show wpAny _ _ (if (sub == sysModules)=true then _ else _) _ _ _
  rw[if_neg (by rw[hsys];decide)]
  refine Qg (wpAny_dictEntries ho hdd ?_)
  rw[if_neg (by rw[hes];decide)]
  refine Qg (wpAny_dictEntries ho2 hdd2 ?_)
  refine Qg (wpAny_dictEpoch ho2 hdd2 ?_)
  show wpAny _ _ (forIn [0] PUnit.unit _>>=_) _ _ _
  rw[List.forIn_cons]
  refine Qg (Qg (Qg (wpAny_dictEntries ho2 hdd2 ?_)))
  show wpAny _ _ (holding _ (dictPut d ((TK C).hash [x,y]) (.ref a) (.str z t))>>=_) _ _ _
  refine Qg (QB (Xhm hu (his2 _ Ql) hd (by rw[hx.keys];exact hn) (by lia) λh' hd' hs'=>?_))
  refine Qg (wpAny_dictEpoch (s:={s with heap:=h'}) ((hs'.2 sub (Ne.symm hne)).trans ho2) hdd2 ?_)
  rw[if_neg (by simp)]
  refine Qh ?_
  dsimp only
  rw[List.forIn_nil]
  refine Qh (Qh (h h' _ (F.change hs' hdL hd0) hd' hx.snoc hs'))
theorem ZM{ks2:List (Option Expr)}{es2:List Expr}:∀{ks1:List (Option Expr)}{es1:List Expr},ks1.all (·.isSome)=true->ks1.length=es1.length->
  pairTrees (ks1++ks2) (es1++es2) env pos=pairTrees ks1 es1 env pos++pairTrees ks2 es2 env pos
 | [],[],_,_=>rfl
 |some k::ks,e::es,h,hl=>by
  have h':ks.all (·.isSome)=true:=by simpa using h
  have hl':ks.length=es.length:=by simpa using hl
  show _::pairTrees (ks++ks2) (es++es2) env pos=_::(pairTrees ks es env pos++pairTrees ks2 es2 env pos)
  rw[ZM h' hl']
 |none::_,_,h,_=>by simp at h
 | [],_::_,_,hl=>by simp at hl
 |_::_,[],_,hl=>by simp at hl
theorem Xgi(O:C.Ok)(hK:C.K=KF P)(X:Yu C sc [] [] L env)(hu:A.units < cLine){Ps:List P3}(hc:Ym sc Ps ks es=true)(hn:(Ps.map Zv).Nodup)(hall:ks.all (·.isSome)=true)(hkl:ks.length=es.length)(h0:ks≠[])(hl:ks.length<=15)(hl2:Ps.length<=60000)
  (F:Fr C.H0 L s.heap m)(h:Dz C L m s Ps λd s'=>Q (.ref d) s'):wpAny (model C.prog C.w) A (eval (.Dict ks es pos) env) Q E s:=by
 have hn':=pairTrees_length ks es env pos hall hkl
 have hp0:pairTrees ks es env pos≠[]:=by
  intro he
  rw[he] at hn'
  exact h0 (List.length_eq_zero_iff.mp hn'.symm)
 rw[arm_eval_Dict,zip_pairTrees ks es env pos hall hkl,dictDisplay_pairs _ hp0 (by rw[hn'];lia)]
 exact Qg (wpAny_standAt (Qg (Ib O hK X hu hc hn (by rw[hn'];exact hl) hl2 F λh' tk d xs F' keep hd hx q1 q2 q3=>Qh (h h' tk d xs F' keep hd hx q1 q2 q3))))
theorem Ds(O:C.Ok)(hK:C.K=KF P)(h:C.H0.objs.size<=d):(d == sysModules)=false:=by
 have h96:=Qu (O.inK 96 (Mine.o96 P) (by rw[hK];rfl))
 induction q:(d == sysModules) with
 |false=>rfl
 |true=>
  rw[eq_of_beq q] at h
  exact absurd (show (96:Nat) < 1 from QY h96 h) (by decide)
theorem UJ(hd:h.DictOfH (TK C) d xs)(keep:∀b o,h.get? b=some o->h'.get? b=some o):h'.DictOfH (TK C) d xs:=by
 refine x36 hd λo es ep ho h1 h2 h3 h4 h5=>?_
 refine ⟨o,es,ep,keep _ _ ho,h1,h2,h3,λx hx=>?_,h5⟩
 refine x32 (h4 x hx) λob items n hob r=>?_
 exact ⟨ob,items,n,keep _ _ hob,r⟩
theorem Xbg(O:C.Ok)(hK:C.K=KF P)(X:Yu C sc [] [] L env)(hu:A.units < cLine){Ps:List P3}{p2:P3}{k1 k2 e1 e2:Expr}(hc:Ym sc Ps (ks++[some k1]) (es++[e1])=true)(hc2:Ym sc [p2] [some k2] [e2]=true)
  (hn:((Ps++[p2]).map Zv).Nodup)(hall:ks.all (·.isSome)=true)(hkl:ks.length=es.length)(h16:ks.length=16)(hl2:Ps.length=17)
  (F:Fr C.H0 L s.heap m)(h:Dz C L m s (Ps++[p2]) λd s'=>Q (.ref d) s'):wpAny (model C.prog C.w) A (eval (.Dict (ks++[some k1,some k2]) (es++[e1,e2]) pos) env) Q E s:=by
 have hn':=pairTrees_length ks es env pos hall hkl
 have hall':(ks++[some k1,some k2]).all (·.isSome)=true:=by rw[List.all_append,hall];rfl
 have hkl':(ks++[some k1,some k2]).length=(es++[e1,e2]).length:=by simp [hkl]
 have e17:pairTrees (ks++[some k1]) (es++[e1]) env pos=pairTrees ks es env pos++[(eval k1 env,do let x ←eval e1 env;standAt pos;pure x)]:=ZM hall hkl
 have nd1:(Ps.map Zv).Nodup:=by
  rw[QG,List.nodup_append] at hn
  exact hn.1
 have nd2:Zv p2∉Ps.map Zv:=by
  rw[QG,List.nodup_append] at hn
  intro hm
  exact hn.2.2 _ hm (Zv p2) (by simp) rfl
 rw[arm_eval_Dict,zip_pairTrees _ _ env pos hall' hkl',ZM hall hkl,QG]
 show wpAny _ _ (standAt pos>>=λ_=>dictDisplay ((pairTrees ks es env pos).map (λp=>(some p.1,p.2))++[(some (eval k1 env),do let x ←eval e1 env;standAt pos;pure x),(some (eval k2 env),do let x ←eval e2 env;standAt pos;pure x)])) _ _ _
 rw[XkA (pairTrees ks es env pos) (by rw[hn',h16]) (eval k1 env,do let x ←eval e1 env;standAt pos;pure x) (eval k2 env,do let x ←eval e2 env;standAt pos;pure x),←e17]
 refine Qg (wpAny_standAt (Qg (Bz O hK X hu hc nd1 ?_ (by lia) F λh1 tk1 d xs F1 keep1 hd hx q1 q2 q3=>?_)))
 ·rw[e17,Qw,hn',h16];show ¬(16 + 1<=15);decide
 refine Qg (QB ?_)
 refine Ib (s:={s with heap:=h1,toks:=tk1}) (Ps:=[p2]) (ks:=[some k2]) (es:=[e2]) O hK X hu hc2 (by simp) (by show (1:Nat)<=15;lia) (by show (1:Nat)<=60000;lia) F1 λh2 tk2 sub ys F2 keep2 hs hy r1 r2 r3=>?_
 have hne:d≠sub:=by
  rintro rfl
  refine x32 hd λo _ _ ho _=>?_
  exact absurd (Qu ho) (Nat.not_lt.mpr r3)
 have hxl:Ps≠[]:=by rintro rfl;cases hl2
 refine Qg (wpAny_onRaise (QB ?_))
 refine XbG (s:={s with heap:=h2,toks:=tk2}) hu q1 q2 F2 hne (Ds O hK (QH (JS F1) r3)) (UJ hd keep2) hx hxl (by lia) hs hy nd2 λh3 xs' F3 hd3 hx3 hs3=>Qh ?_
 refine h h3 tk2 d xs' F3 (λb o e=>?_) hd3 hx3 q1 q2 q3
 exact (hs3.2 b (by
  rintro rfl
  exact absurd (Qu e) (Nat.not_lt.mpr q3))).trans (keep2 b o (keep1 b o e))
theorem NJ(O:C.Ok)(Rx:C.cells=[])(Ry:C.cellv=[]){f:Rn}(K:DA C n f fd fc body cal)(g:X5 A (n + 1))(hin:∀b o,C.H0.get? b=some o->s.heap.get? b=some o)(hbig:C.H0.objs.size<=s.heap.objs.size)
  (hE:∀L,ZC (callEnv fd L f) L){args:List V}(Rs:YH C.ρ [] args vs)(e:Jg fc.params args fc.dflts=some l){Q:Result->Rk->Prop}
  (h:∀L A' h₀ m tk,L=s.heap.objs.size->YK A' n->At C L [] (λ_=>none) ⟨.nil,0⟩ l h₀ m->Yu C fd.scope [] [] L (callEnv fd L f)->(∀b o,s.heap.get? b=some o->h₀.get? b=some o)->
   wpAny (model C.prog C.w) A' (execs body (callEnv fd L f)) (λfl s'=>Q (.ok (.ret (match fl with | .ret v=>v |_=> .none))) s') (λ_ _=>False) {s with heap:=h₀,toks:=tk}):
  codeAny (model C.prog C.w) A (.call (.ref f) ⟨vs,[]⟩) Q s:=by
 refine x31 K.obj λoc0 od sl ho=>?_
 have X0:C.K.In s.heap:=O.inK.keeps hin
 refine YO (K.bind [] args vs l s X0 Rs e) λbinds b1 b2 b3=>?_
 have hg:A.depth < recursionLimit:=by show A.depth < 1000;have:=g.2.1;lia
 refine codeAny_call_def hg (X0 _ _ ho) rfl (O.top.nolimit.keeps hin) (codeRec_of X0 K.code) K.stmts b1 K.cell b2 (λh₀ hns hkeep=>?_) K.co K.gen K.kind
 have F:Fr C.H0 s.heap.objs.size h₀ (λx=>binds.reverse.lookup x):=⟨hns,λb o e=>hkeep b o (hin b o e),hbig⟩
 have T:At C s.heap.objs.size [] (λ_=>none) ⟨.nil,0⟩ l h₀ (λx=>binds.reverse.lookup x):=
  ⟨⟨rfl,λ_ _ _=>rfl,F.keep,JS F,λi o e=>by injection e⟩,F,rfl,b3,λp hp=>by rw[Rx] at hp;cases hp⟩
 exact wpAny_mono (h _ _ h₀ _ _ rfl g.deeper T ⟨hE _,rfl,nofun,λx _=>by rw[Ry];rfl⟩ hkeep) (λ_ _ z=>z) λ_ _ z=>z.elim
theorem XbD{b:List Nat}:∀n v',Xh (NO b) n=some v'->∃v,Xh (NO b) n=some v/\((v=v'/\∀i,v≠ .ref i)∨(v=v'/\∃i,i < 3/\v= .ref i)):=λn v' h=>by
 refine ⟨v',h,?_⟩
 have:=Zs h
 rcases Qe this with e |this
 ·cases e;exact .inr ⟨rfl,0,by decide,rfl⟩
 rcases Qe this with e |this
 ·cases e;exact .inr ⟨rfl,2,by decide,rfl⟩
 rcases Qe this with e |this
 ·cases e;exact .inl ⟨rfl,nofun⟩
 ·cases this
theorem Xon{b:List Nat}:∀n v',Xh Il n=some v'->∃v,Xh (NO b) n=some v/\((v=v'/\∀i,v≠ .ref i)∨(v=v'/\∃i,i < 3/\v= .ref i)):=λn v' h=>by
 refine ⟨v',?_,?_⟩
 ·show bc (Nat.beq 171 n) (some (V.ref 0)) (bc (Nat.beq 123 n) (some (V.ref 2)) (bc (Nat.beq 49 n) (some (V.bytes b)) none))=_
  replace h:bc (Nat.beq 171 n) (some (V.ref 0)) (bc (Nat.beq 123 n) (some (V.ref 2)) none)=some v':=h
  induction q:Nat.beq 171 n with
  |true=>rw[q] at h;exact h
  |false=>
   rw[q] at h
   replace h:bc (Nat.beq 123 n) (some (V.ref 2)) none=some v':=h
   show bc (Nat.beq 123 n) (some (V.ref 2)) (bc (Nat.beq 49 n) (some (V.bytes b)) none)=_
   induction q2:Nat.beq 123 n with
   |true=>rw[q2] at h;exact h
   |false=>rw[q2] at h;injection h
 ·have:=Zs h
  rcases Qe this with e |this
  ·cases e;exact .inr ⟨rfl,0,by decide,rfl⟩
  rcases Qe this with e |this
  ·cases e;exact .inr ⟨rfl,2,by decide,rfl⟩
  ·cases this
theorem XgU(O:C.Ok)(hK:C.K=KF P)(Ry:C.cellv=[])(X:Yu C Wm [] [] L env)(g:YK A n){Ro Rq σ l m σ'}(HF:Xm C.ρ F)(HG:XS C.ρ G)(hc:XB C n cal)
  (T:At C L Ro Rq σ l s.heap m)(e:s7M ⟨F,G,Xr.get,842,cal⟩ l σ= .ret (.bool true) σ'):wpAny (model C.prog C.w) A (execs [S7] env) (XaN C s) (λ_ _=>False) s:=by
 refine QQ (XpY O hK Ry HF HG hc X A g _ _ _ _ _ _ _ T e nofun _ _ ?_)
 intro h' t Rr Rt m' l' val G' T' R
 cases R
 exact ⟨rfl,rfl,rfl,T'.rp.keep⟩
theorem XgT(O:C.Ok)(hK:C.K=KF P)(Ry:C.cellv=[])(X:Yu C Wm [] [] L env)(g:YK A n){b:List Nat}{src:List (Int×LI)}{k:Int}(hT:WL C n b src k)(hN:Iy C n b k)(hP:U8 C n k){Ro Rq m}
  (T:At C L Ro Rq (JG src k) (NO b) s.heap m):wpAny (model C.prog C.w) A (execs (i6.st U4 Dg::S7::[]) env) (XaN C s) (λ_ _=>False) s:=by
 have TB:Ua C Z6:=JO hK
 refine x47 hT λF1 G1 cal1 σ1 f1 f2 f3 e1 t0 t1 t2=>?_
 refine x47 hN λF2 G2 cal2 σ2 g1 g2 g3 e2 u0 u1 u2=>?_
 refine x55 hP λF3 G3 cal3 src3 σ3 h1 h2 h3 h4 e3=>?_
 have hx:=YC (k:=⟨F1,G1,Xr.get,842,cal1⟩) (n:=n) O TB f1 f2 f3 rfl rfl 40 Wm [] L env X _ _ Xe9
 have hy:=YC (k:=⟨F2,G2,Xr.get,842,cal2⟩) (n:=n) O TB g1 g2 g3 rfl rfl 40 Wm [] L env X _ _ Xg3
 refine QQ (XkQ hx hy g T e1 λha ta Ru Rv m1 T1=>?_)
 refine x21 (T1.cut3 t0 t1 t2 (NO b) XbD (src':=ZY) λ_ _ z=>z) λRz RA T2=>?_
 refine ⟨Rz,RA,_,_,_,T2,e2,λhb tb RB RC m3 T3=>?_⟩
 refine x21 (T3.cut3 u0 u1 u2 Il Xon (src':=src3) h4) λads4 own4 T4=>?_
 exact XgU (s:={s with heap:=hb,toks:=tb}) O hK Ry X g h1 h2 h3 T4 e3
theorem XgS(O:C.Ok)(hK:C.K=KF P)(Ry:C.cellv=[])(X:Yu C Wm [] [] L env)(g:YK A n){b:List Nat}{src src5:List (Int×LI)}{k:Int}(HF:Xm C.ρ F)(HG:XS C.ρ G)(hc:XB C n cal)
  (e:s5M ⟨F,G,Xr.get,842,cal⟩ Il (JG src5 k)= .next (NO b) (JG src k))(hT:WL C n b src k)(hN:Iy C n b k)(hP:U8 C n k){Ro Rq m}
  (T:At C L Ro Rq (JG src5 k) Il s.heap m):wpAny (model C.prog C.w) A (execs (S5::i6.st U4 Dg::S7::[]) env) (XaN C s) (λ_ _=>False) s:=by
 refine QQ (XpX O hK Ry HF HG hc X A g _ _ _ _ _ _ _ T e nofun _ _ ?_)
 intro h' t Rr Rt m' G' T'
 exact XgT (s:={s with heap:=h',toks:=t}) O hK Ry X g hT hN hP T'
def st1(src:List (Int×LI)):St:=⟨.node (some (.src src)) .nil .nil,1⟩
theorem XgR(O:C.Ok)(hK:C.K=KF P)(Ry:C.cellv=[])(X:Yu C Wm [] [] L env)(g:YK A n){b:List Nat}{src src5 src4:List (Int×LI)}{k:Int}(HF:Xm C.ρ F)(HG:XS C.ρ G)(hc:XB C n cal)
  (e4:s4M ⟨F,G,Xr.get,842,cal⟩ [(171,.ref 0)] (st1 src4)= .next Il (JG src5 k))(e:s5M ⟨F,G,Xr.get,842,cal⟩ Il (JG src5 k)= .next (NO b) (JG src k))(hT:WL C n b src k)(hN:Iy C n b k)(hP:U8 C n k){Ro Rq m}
  (T:At C L Ro Rq (st1 src4) [(171,.ref 0)] s.heap m):wpAny (model C.prog C.w) A (execs ((bW.drop 3).take 1++(S5::i6.st U4 Dg::S7::[])) env) (XaN C s) (λ_ _=>False) s:=by
 refine YD (X6 (k:=⟨F,G,Xr.get,842,cal⟩) O (JO hK) HF HG hc rfl rfl X Xv0 A g _ _ _ _ _ _ _ T e4 nofun _ _ ?_)
 intro h' t Rr Rt m' G' T'
 exact XgS (s:={s with heap:=h',toks:=t}) O hK Ry X g HF HG hc e hT hN hP T'
theorem At.src{Ro Rq m h l'}{p q:LI}(T:At C L Ro Rq ⟨.node (some (.list [.int p,.int q])) .nil .nil,1⟩ l h m){src4:List (Int×LI)}(h0:0<=p.val C.ρ)(h1:0<=q.val C.ρ)(h2:q.val C.ρ < 2147483647)(hd:Jw C.ρ (p.val C.ρ) (q.val C.ρ) src4)
  (hl:∀n v',Xh l' n=some v'->Xh l n=some v'):At C L Ro Rq (st1 src4) l' h m:=by
 refine T.as rfl (λi o' e=>?_) λj v' e=>⟨v',hl j v' e,λ_ z=>z⟩
 have hi:i=0/\o'= .src src4:=by
  induction i with
  |zero=>cases e;exact ⟨rfl,rfl⟩
  |succ i=>
   exfalso
   have hb:Nat.beq (i + 1) 0=false:=rfl
   replace e:bc (Nat.beq (i + 1) 0) (some (O.src src4)) (bc (Nat.beq (Nat.land (i + 1) 1) 1) none none)=some o':=e
   rw[hb] at e
   replace e:bc (Nat.beq (Nat.land (i + 1) 1) 1) (none:Option O) none=some o':=e
   cases q:Nat.beq (Nat.land (i + 1) 1) 1<;>rw[q] at e<;>injection e
 obtain ⟨rfl,rfl⟩:=hi
 refine ⟨_,rfl,λa hr=>?_⟩
 refine Y5 hr λvs nn g1 g2=>?_
 obtain ⟨_,_,rfl,r1,g2⟩:=g2.consI
 obtain ⟨_,_,rfl,r2,g2⟩:=g2.consI
 cases g2
 obtain ⟨z1,t1,rfl,e1⟩:=r1.intI
 obtain ⟨z2,t2,rfl,e2⟩:=r2.intI
 subst e1
 subst e2
 exact ⟨_,_,_,_,_,g1,h0,h1,h2,hd⟩
def WJ(ρ:Nat->Int):XA->Prop
 | []=>True
 |(t,c,b)::r=>(b=decide (0<=c + tv ρ t))/\WJ ρ r
theorem WJ.ok:∀{F:XA},WJ ρ F->Xm ρ F
 | [],_=>λ_ _ _ h=>by cases h
 |(t,c,b)::r,h=>λt' c' b' hm=>by
  rcases Qe hm with e |hm
  ·cases e;exact h.1
  ·exact h.2.ok _ _ _ hm
theorem fT{a:Int}(h:0<=a):true=decide (0<=a):=(Qo h).symm
theorem fF{a:Int}(h:a < 0):false=decide (0<=a):=(Qn (by lia)).symm
theorem Nh{a b r:Int}(hb:0 < b)(hr:r=a % b):Xcf 4 a b r:=by
 intro prog w A s op t u Q E ho h
 have:op= .Mod:=by cases op<;>first |rfl |cases ho
 subst this
 refine PyProof.Rows.mod_int (by lia) ?_
 rw[Int.fmod_eq_emod_of_nonneg _ (Int.le_of_lt hb),←hr]
 exact h _ _
theorem YU:XS ρ []:=λ_ _ _ _ h=>by cases h
def Jf(z:Int):Int:=if 0<=z then z else -1 - z
def Jp(z:Int):Int:=if 1000000000000000000<=Jf z then Jf z else 0
def Jq(z:Int):Int:=(Jf z % 2147483629 * 48271 + 820607) % 2147483647
def XP(F:XA)(G:Oz):Mj:=⟨⟨Mg.get,Xr.get,842⟩,F,G,λ_ _ _=>none⟩
theorem XeW{F':XA}{G':Oz}{m:MS}(h:m ⟨F,G,Xr.get,842,Wd⟩ (pl0 sa) ⟨.nil,0⟩= .ret (.ref 0) σ'):
  s3M ⟨F',G',Xr.get,842,Ii (XP F G) m⟩ [(166,.fn sa)] ⟨.nil,0⟩= .next [(166,.fn sa),(171,.ref 0)] σ':=by
 have h1:Xk (.fn 1273) (Xa (Xb 166) (Xa (Xf 0) Xe)) ⟨F',G',Xr.get,842,Ii (XP F G) m⟩ [(166,.fn sa)] ⟨.nil,0⟩=Ze (m ⟨F,G,Xr.get,842,Wd⟩ (pl0 sa) ⟨.nil,0⟩):=rfl
 show Xu.to (Xk (.fn 1273) (Xa (Xb 166) (Xa (Xf 0) Xe)) ⟨F',G',Xr.get,842,Ii (XP F G) m⟩ [(166,.fn sa)] ⟨.nil,0⟩) Zk.no (λv s=> .next (XM [(166,.fn sa)] 171 v) s)=_
 rw[h1,h]
 rfl
def stP(p q:LI):St:=⟨.node (some (.list [.int p,.int q])) .nil .nil,1⟩
structure GF(ρ:Nat->Int)(z:Int)(len:Nat):Prop where
 cell:ρ 60=z
 m1:ρ 61=Jf z % 2147483629
 m2:ρ 62=Jq z
 len:ρ 63=len
theorem Xg9(O:C.Ok)(Rx:C.cells=[])(Ry:C.cellv=[])(hK:C.K=KF P){sa:Rn}{vals:List Rm}(hsa:C.H0.IsList sa vals.toArray)(hv:vals.length<=60000)
  {z:Int}(hz:(vals=[]/\z=0)∨∃t,vals[0]?=some (.int z t))(hl:GF C.ρ z vals.length):
  ∃F G m p q,Xm C.ρ F/\XS C.ρ G/\XB C (n + 1) (Ii (XP F G) m)/\(∀F' G',s3M ⟨F',G',Xr.get,842,Ii (XP F G) m⟩ [(166,.fn sa)] ⟨.nil,0⟩= .next [(166,.fn sa),(171,.ref 0)] (stP p q))/\p.val C.ρ=Jp z/\q.val C.ρ=Jq z:=by
 rcases hz with ⟨he,rfl⟩ |⟨t,ht⟩
 ·have hF:Xm C.ρ []:=WJ.ok trivial
  refine ⟨[],[],Bn sa ⟨0,[]⟩,⟨0,[]⟩,⟨820607,[]⟩,hF,YU,?_,λF' G'=>XeW ?_,rfl,rfl⟩
  ·refine BY (X:=XP [] []) O Rx Ry hK rfl rfl hF YU λL F G env HF HG X=>?_
   refine KK O hK HF HG ZR X Ry (Xar O hK HF HG ZR X hsa hv (by rw[he];rfl)) ?_
   intro A g Ro Rq σ l s m out T e hno
   exact absurd e.symm hno
  ·rw[XbP rfl]
   exact XpN sa
 ·have hn:1<=vals.length:=by
   obtain ⟨h1,_⟩:=Qa ht
   lia
  have hc:(L1 60).val C.ρ=z:=by
   show 0 + (1 * C.ρ 60 + 0)=z
   rw[hl.cell];lia
  have hcal:∀F G,Xm C.ρ F->XS C.ρ G->XB C (n + 1) (Ii (XP F G) (XeB sa ⟨0,[(63,1)]⟩ (L1 60))):=λF G HF HG=>by
   refine BY (X:=XP F G) O Rx Ry hK rfl rfl HF HG λL F G env HF HG X=>?_
   have TB:Ua C Z6:=JO hK
   have ls:=Xar (n:=n) O hK HF HG ZR X hsa hv (z:=⟨0,[(63,1)]⟩) (by show 0 + (1 * C.ρ 63 + 0)=_;rw[hl.len];lia)
   have is:=XdW (n:=n) O hK HF HG ZR X hsa (c:=L1 60) (tc:=t) (by rw[hc];exact ht)
   exact KK O hK HF HG ZR X Ry ls (XeL (XeJ X.l is Xgb (by rw[Ry];rfl) (X.kind Xga) rfl) XeK)
  have facts:∀p big,p=decide (0<=z)->big=decide (1000000000000000000<=Jf z)->Xm C.ρ (fA p big)/\XS C.ρ (gA p):=λp big hp hb=>by
   have b61:((⟨0,[(61,1)]⟩:LI).val C.ρ)=Jf z % 2147483629:=by
    show 0 + (1 * C.ρ 61 + 0)=_
    rw[hl.m1];lia
   have b62:((⟨0,[(62,1)]⟩:LI).val C.ρ)=Jq z:=by
    show 0 + (1 * C.ρ 62 + 0)=_
    rw[hl.m2];lia
   have bb:(Xni p).val C.ρ=Jf z:=by
    unfold Jf
    by_cases h:0<=z
    ·rw[if_pos h,hp,Qo h]
     exact hc
    ·rw[if_neg h,hp,Qn h]
     show -1 + (-1 * C.ρ 60 + 0)=_
     rw[hl.cell];lia
   constructor
   ·refine WJ.ok ⟨?_,?_,?_,trivial⟩
    ·refine fT ?_
     show 0<= -1 + (1 * C.ρ 63 + 0)
     rw[hl.len];lia
    ·show (!p)=decide (0<= -2 + (-2 * C.ρ 60 + 0))
     rw[hl.cell,hp]
     by_cases h:0<=z
     ·rw[Qo h,Qn (by lia)];rfl
     ·rw[Qn h,Qo (by lia)];rfl
    ·rw[hb]
     unfold Jf
     by_cases h:0<=z
     ·rw[if_pos h,hp,Qo h]
      show decide (1000000000000000000<=z)=decide (0<= -1000000000000000000 + (1 * C.ρ 60 + 0))
      rw[hl.cell]
      exact decide_eq_decide.mpr (by lia)
     ·rw[if_neg h,hp,Qn h]
      show decide (1000000000000000000<= -1 - z)=decide (0<= -1000000000000000001 + (-1 * C.ρ 60 + 0))
      rw[hl.cell]
      exact decide_eq_decide.mpr (by lia)
   ·intro o x y w hm
    rcases Qe hm with e |hm
    ·cases e
     rw[bb,b61]
     exact Nh (show (0:Int) < 2147483629 by decide) rfl
    rcases Qe hm with e |hm
    ·cases e
     rw[b62]
     refine Nh (show (0:Int) < 2147483647 by decide) ?_
     show Jq z=(820607 + (48271 * C.ρ 61 + 0)) % 2147483647
     rw[hl.m1]
     unfold Jq
     congr 1
     lia
    ·cases hm
  have fin:∀p big (pl:LI),p=decide (0<=z)->big=decide (1000000000000000000<=Jf z)->(∀sa,XbN (fA p big) (gA p) ⟨0,[(60,1)]⟩ sa= .ret (.ref 0) (stP pl ⟨0,[(62,1)]⟩))->pl.val C.ρ=Jp z->Ux (fA p big) 2 ⟨.nil,0⟩ (.int ⟨0,[]⟩) (.int ⟨0,[(63,1)]⟩)=some true->
    ∃F G m p q,Xm C.ρ F/\XS C.ρ G/\XB C (n + 1) (Ii (XP F G) m)/\(∀F' G',s3M ⟨F',G',Xr.get,842,Ii (XP F G) m⟩ [(166,.fn sa)] ⟨.nil,0⟩= .next [(166,.fn sa),(171,.ref 0)] (stP p q))/\p.val C.ρ=Jp z/\q.val C.ρ=Jq z:=λp big pl hp hb ho hpl hcmp=>by
   obtain ⟨f1,f2⟩:=facts p big hp hb
   refine ⟨_,_,_,pl,⟨0,[(62,1)]⟩,f1,f2,hcal _ _ f1 f2,λF' G'=>XeW ?_,hpl,?_⟩
   ·rw[XbQ hcmp]
    exact ho sa
   ·show 0 + (1 * C.ρ 62 + 0)=_
    rw[hl.m2];lia
  by_cases h:0<=z
  ·by_cases h2:1000000000000000000<=Jf z
   ·refine fin true true _ (Qo h).symm (Qo h2).symm Xmc ?_ (by kernel_rfl)
    show 0 + (1 * C.ρ 60 + 0)=_
    unfold Jp Jf at *
    rw[if_pos h] at *
    rw[if_pos h2,hl.cell];lia
   ·refine fin true false _ (Qo h).symm (Qn h2).symm Xmb ?_ (by kernel_rfl)
    unfold Jp
    rw[if_neg h2];rfl
  ·by_cases h2:1000000000000000000<=Jf z
   ·refine fin false true _ (Qn h).symm (Qo h2).symm Xl9 ?_ (by kernel_rfl)
    show -1 + (-1 * C.ρ 60 + 0)=_
    unfold Jp Jf at *
    rw[if_neg h] at *
    rw[if_pos h2,hl.cell];lia
   ·refine fin false false _ (Qn h).symm (Qn h2).symm Xl8 ?_ (by kernel_rfl)
    unfold Jp
    rw[if_neg h2];rfl
theorem XeA(z:Int):0<=Jp z/\0<=Jq z/\Jq z < 2147483647:=by
 refine ⟨?_,Int.emod_nonneg _ (by decide),Int.emod_lt_of_pos _ (by decide)⟩
 unfold Jp
 split<;>lia
noncomputable def Xh2(l:List Stmt):(List (Option Expr)×List Expr)×Pos×Pos:=Xn0 (N9 l 0) (λv q=>v.elim (([],[]),Of,Of) λe=>XnW e (λks es p=>((ks,es),p,q)) (([],[]),Of,Of)) (([],[]),Of,Of)
def d52:=Xh2 (Yk 52).2.1
def d53:=Xh2 (Yk 53).2.1
def kA:=d53.1.1.take 16
def eA:=d53.1.2.take 16
noncomputable def Xv8:List (Option Expr)->Expr×Expr
 | [some a,some b]=>(a,b)
 |_=>(.Constant .none 0 Of,.Constant .none 0 Of)
noncomputable def Xv9:List Expr->Expr×Expr
 | [a,b]=>(a,b)
 |_=>(.Constant .none 0 Of,.Constant .none 0 Of)
def kB:=Xv8 (d53.1.1.drop 16)
def eB:=Xv9 (d53.1.2.drop 16)
theorem Xko:(Yk 52).2.1=[.Return (some (.Dict d52.1.1 d52.1.2 d52.2.1)) d52.2.2]:=by kernel_rfl
theorem Xkp:(Yk 53).2.1=[.Return (some (.Dict (kA++[some kB.1,some kB.2]) (eA++[eB.1,eB.2]) d53.2.1)) d53.2.2]:=by kernel_rfl
def p3(a b c:String):P3:=(QW a,QW b,QW c)
noncomputable def Uv:List P3:=[p3 "closed" "listen" "listen",p3 "closed" "connect" "syn sent",p3 "listen" "connect" "syn sent",p3 "listen" "syn" "syn received",p3 "syn sent" "syn" "syn received",p3 "syn sent" "syn ack" "established",p3 "syn received" "ack of syn" "established"]
noncomputable def NF:List P3:=[p3 "listen" "close" "closed",p3 "syn sent" "close" "closed",p3 "syn received" "close" "fin wait 1",p3 "established" "close" "fin wait 1",p3 "close wait" "close" "last ack",p3 "syn received" "fin" "close wait",p3 "established" "fin" "close wait",
 p3 "fin wait 1" "fin" "closing",p3 "fin wait 2" "fin" "time wait",p3 "close wait" "fin" "close wait",p3 "closing" "fin" "closing",p3 "last ack" "fin" "last ack",p3 "time wait" "fin" "time wait",p3 "fin wait 1" "ack of fin" "fin wait 2",p3 "closing" "ack of fin" "time wait",p3 "last ack" "ack of fin" "closed",
 p3 "fin wait 1" "fin and ack of fin" "time wait"]
def Da:P3:=p3 "time wait" "time wait over" "closed"
theorem Xeu:Ym (Yk 52).2.2 Uv d52.1.1 d52.1.2=true:=by kernel_rfl
theorem Xet:d52.1.1.all (·.isSome)=true:=by kernel_rfl
theorem Xew:d52.1.1.length=7/\d52.1.2.length=7:=⟨by kernel_rfl,by kernel_rfl⟩
theorem Xa9:Ym (Yk 53).2.2 NF (kA++[some kB.1]) (eA++[eB.1])=true:=by kernel_rfl
theorem MD:Ym (Yk 53).2.2 [Da] [some kB.2] [eB.2]=true:=by kernel_rfl
theorem Xa8:kA.all (·.isSome)=true:=by kernel_rfl
theorem Xbb:kA.length=16/\eA.length=16:=⟨by kernel_rfl,by kernel_rfl⟩
theorem Xg8:(Uv.map Zv).Nodup:=YN (λl=>l.map XgM) (by decide +kernel)
theorem XcY:((NF++[Da]).map Zv).Nodup:=YN (λl=>l.map XgM) (by decide +kernel)
theorem Xev(O:C.Ok)(Rx:C.cells=[])(Ry:C.cellv=[])(hK:C.K=KF P){f:Rn}(FK:DA C 0 f fd fc body cal)(hE:∀L,ZC (callEnv fd L f) L)(e:Jg fc.params [] fc.dflts=some [])(hsc:fd.scope=sc)
  {q:Pos}{Ps:List P3}(hbody:body=[.Return (some (.Dict ks es p)) q])(hc:Ym sc Ps ks es=true)(hn:(Ps.map Zv).Nodup)(hall:ks.all (·.isSome)=true)(hkl:ks.length=es.length)(h0:ks≠[])(hl:ks.length<=15)(hl2:Ps.length<=60000)
  (g:X5 A 1)(F:Fr C.H0 L s.heap m)(h:Dz C L m s Ps λd s'=>Q (.ref d) s'):wpAny (model C.prog C.w) A (call (.ref f) []) Q E s:=by
 refine wpAny_call (NJ (args:=[]) (vs:=[]) (l:=[]) O Rx Ry FK g F.keep (JS F) hE .nil e λL' A' h₀ m' tk hL g' T X hk=>?_)
 rw[hsc] at X
 rw[hbody]
 refine QQ (wpAny_Return_some (Xgi (s:={s with heap:=h₀,toks:=tk}) O hK X g'.units hc hn hall hkl h0 hl hl2 T.fr λh' tk' d xs F' keep hd hx q1 q2 q3=>?_))
 have hlt:s.heap.objs.size < d:=by have:=T.fr.ns.lt;rw[hL] at this;exact QY this q3
 exact h h' tk' d xs (F.keeps λb o e=>keep b o (hk b o e)) (λb o e=>keep b o (hk b o e)) hd hx (Nat.ne_of_gt (Nat.lt_trans F.ns.lt hlt)) q2 (Nat.le_of_lt hlt)
theorem Xba(O:C.Ok)(Rx:C.cells=[])(Ry:C.cellv=[])(hK:C.K=KF P){f:Rn}(FK:DA C 0 f fd fc body cal)(hE:∀L,ZC (callEnv fd L f) L)(e:Jg fc.params [] fc.dflts=some [])(hsc:fd.scope=sc)
  {k1 k2 e1 e2:Expr}{q:Pos}{Ps:List P3}{p2:P3}(hbody:body=[.Return (some (.Dict (ks++[some k1,some k2]) (es++[e1,e2]) p)) q])(hc:Ym sc Ps (ks++[some k1]) (es++[e1])=true)(hc2:Ym sc [p2] [some k2] [e2]=true)
  (hn:((Ps++[p2]).map Zv).Nodup)(hall:ks.all (·.isSome)=true)(hkl:ks.length=es.length)(h16:ks.length=16)(hl2:Ps.length=17)
  (g:X5 A 1)(F:Fr C.H0 L s.heap m)(h:Dz C L m s (Ps++[p2]) λd s'=>Q (.ref d) s'):wpAny (model C.prog C.w) A (call (.ref f) []) Q E s:=by
 refine wpAny_call (NJ (args:=[]) (vs:=[]) (l:=[]) O Rx Ry FK g F.keep (JS F) hE .nil e λL' A' h₀ m' tk hL g' T X hk=>?_)
 rw[hsc] at X
 rw[hbody]
 refine QQ (wpAny_Return_some (Xbg (s:={s with heap:=h₀,toks:=tk}) O hK X g'.units hc hc2 hn hall hkl h16 hl2 T.fr λh' tk' d xs F' keep hd hx q1 q2 q3=>?_))
 have hlt:s.heap.objs.size < d:=by have:=T.fr.ns.lt;rw[hL] at this;exact QY this q3
 exact h h' tk' d xs (F.keeps λb o e=>keep b o (hk b o e)) (λb o e=>keep b o (hk b o e)) hd hx (Nat.ne_of_gt (Nat.lt_trans F.ns.lt hlt)) q2 (Nat.le_of_lt hlt)
theorem Gl(O:C.Ok)(Rx:C.cells=[])(Ry:C.cellv=[])(hK:C.K=KF P)(g:X5 A 1)(F:Fr C.H0 L s.heap m)(h:Dz C L m s Uv λd s'=>Q (.ref d) s'):
  wpAny (model C.prog C.w) A (call (.ref 751) []) Q E s:=by
 have FK:=fx Xm2 O Ry hK 0 Wd ZR
 obtain ⟨l1,l2⟩:=Xew
 exact Xev O Rx Ry hK FK (λL=>⟨rfl,rfl,rfl,FK.kind⟩) rfl rfl Xko Xeu Xg8 Xet (l1.trans l2.symm) (by intro e;rw[e] at l1;cases l1) (by lia) (by decide) g F h
theorem DU(O:C.Ok)(Rx:C.cells=[])(Ry:C.cellv=[])(hK:C.K=KF P)(g:X5 A 1)(F:Fr C.H0 L s.heap m)(h:Dz C L m s (NF++[Da]) λd s'=>Q (.ref d) s'):
  wpAny (model C.prog C.w) A (call (.ref 758) []) Q E s:=by
 have FK:=fx Xm3 O Ry hK 0 Wd ZR
 obtain ⟨l1,l2⟩:=Xbb
 exact Xba O Rx Ry hK FK (λL=>⟨rfl,rfl,rfl,FK.kind⟩) rfl rfl Xkp Xa9 MD XcY Xa8 (l1.trans l2.symm) l1 rfl g F h
theorem XcB{x attr:Str}{q:Pos}(h:(x != "super")=true):attributeBase (.Call (.Name x p) [] [] q) attr env whole=whole:=by
 unfold attributeBase
 simp [h]
theorem XbF{x:Str}(hb:(x != "super")=true)(hs:Ys args=true)(hl:args.length < 30)(hp:(apos.endLine == pos.line)=true):
  eval (.Call (.Attribute (.Call (.Name x p1) [] [] p2) name apos) args [] pos) env=(do
   let ov ←eval (.Call (.Name x p1) [] [] p2) env
   standAt apos.atName
   let (f,first) ←holding [ov] (getMethod ov name (do return (←importBound (.Call (.Name x p1) [] [] p2) env).getD true))
   callWith pos f first (backTo pos (starEach args env)) []):=by
 show (attributeBase (.Call (.Name x p1) [] [] p2) name env (eval (.Call (.Name x p1) [] [] p2) env)>>=λov=>standAt apos.atName>>=λ_=>methodCall (.Call (.Name x p1) [] [] p2) name apos pos env ov (args.length + 0) (backTo pos (starEach args env)) [])=_
 rw[XcB hb]
 have hf:methodCallForm (args.length + 0) (backTo pos (starEach args env)) []=true:=by
  unfold methodCallForm
  rw[Dq hs]
  show (true&&true&&decide (args.length + 0 + 0 < 30))=true
  rw[Qo (by lia)]
  rfl
 unfold methodCall
 rw[hf]
 unfold methodCallPos
 rw[hp]
 rfl
def stN:Str:=QW "state"
def evN:Str:=QW "event"
def XkN:Str:=QW "get"
theorem Xel:Zc[100]?=some stN/\Zc[101]?=some evN/\Zc[78]?=some (QW "found"):=⟨by kernel_rfl,by kernel_rfl,by kernel_rfl⟩
theorem Xe4{a:Nat}{x y:Str}(Ry:C.cellv=[])(T:LR C Ro l m)(h:Xh l i=some (.str a))(hn:Zc[i]?=some x)(hy:Ih[a]?=some y):∃t,m x=some (.str y t):=by
 refine UB (T i _ h) λx' v e1 e2 e3=>?_
 rw[hn] at e1;obtain rfl:=QV e1
 have e2':=e2.here (by rw[Ry];rfl)
 refine Y5 e3.strI λz t zz1 hz=>?_;subst zz1
 rw[hy] at hz;obtain rfl:=QV hz;exact ⟨t,e2'⟩
theorem Kl(O:C.Ok)(Ry:C.cellv=[])(hK:C.K=KF P)(X:Yu C sc [] [] L env)(g:YK A 1){Ro Rq σ l}(T:At C L Ro Rq σ l s.heap m){fname:Str}{fv:Nat}{Ps:List P3}
  (hg:XC gtL fname=some (.fn fv,.ref fv))(hfl:JN (XC sc.names fname)=true)(hsup:(fname != "super")=true)
  (hcall:∀{Q:Rm->Rk->Prop},Dz C L m s Ps (λd s'=>Q (.ref d) s')->wpAny (model C.prog C.w) A (call (.ref fv) []) Q E s)
  {a b:Nat}{x y:Str}(ha:Xh l 100=some (.str a))(hb:Xh l 101=some (.str b))(hx:Ih[a]?=some x)(hy:Ih[b]?=some y)(h1:XC sc.names stN=some .local)(h2:XC sc.names evN=some .local)
  {p3 p4 p5:Pos}{cx:Nat}(hp:(apos.endLine == pos.line)=true)
  (h:∀h' tk v,Fr C.H0 L h' m->(∀b o,s.heap.get? b=some o->h'.get? b=some o)->(match ZW Ps x y with |some z=>∃t,v= .str z t |none=>v= .none)->Q v {s with heap:=h',toks:=tk}):
  wpAny (model C.prog C.w) A (eval (.Call (.Attribute (.Call (.Name fname p1) [] [] p2) XkN apos) [.Tuple [.Name stN p3,.Name evN p4] cx p5] [] pos) env) Q E s:=by
 obtain ⟨t1,m1⟩:=Xe4 Ry T.lr ha Xel.1 hx
 obtain ⟨t2,m2⟩:=Xe4 Ry T.lr hb Xel.2.1 hy
 refine YF ((JO hK).gl _ _ _ hg) λg1 g2 g3=>?_
 obtain ⟨g4,g5⟩:=(JO hK).fn _ _ _ hg rfl
 rw[XbF (args:=[.Tuple [.Name stN p3,.Name evN p4] cx p5]) hsup rfl (show 1 < 30 by decide) hp]
 refine Qg (Call_ (Gf X.l T.fr O.inK O.top g1 ?_ (X.kind (Wa hfl)) g3))
 refine callWith_K0 (T.okK O) g5 (hcall λh1' tk1 d xs F1 keep1 hd hx1 q1 q2 q3=>?_)
 refine Qg (wpAny_standAt (Qg (QB (getMethod_builtin hd.typeIs PySem.F.plainAttrs_dict PySem.F.slot_dict_get PySem.F.type_dict_get (dictOfH_noDict hd) ?_))))
 refine UH (C:=C) rfl ?_
 rw[XX rfl]
 refine spliced_cons (Tuple_ (k:=cx) ?_)
 rw[XX rfl]
 refine spliced_cons (ldE X.l F1 m1 ?_ (X.kind h1) (by kernel_rfl))
 rw[XX rfl]
 refine spliced_cons (ldE X.l F1 m2 ?_ (X.kind h2) (by kernel_rfl))
 refine args_nil ?_
 refine wpAny_newTuple (s:={s with heap:=h1',toks:=tk1}) ?_
 refine args_nil ?_
 have hu:A.units + 1 < cLine:=by show A.units + 1 < 9900;have:=g.2.2.1;lia
 refine call_meetsIn (s:={s with heap:=h1'.push {cls:= .type "tuple",data:= .seq #[.str x t1,.str y t2]},toks:=tk1}) PySem.F.slot_dict_get (UJ hd λb o e=>Qj _ e).typeIs PySem.F.entry_dict_get (PySem.F.args_dict_get_2 _ _) (meetsH_dict_get (TK C) d h1'.objs.size (Ds O hK ?_)) ⟨tupleKind_room_in1 hu,[x,y],xs,NL,UJ hd λb o e=>Qj _ e,?_⟩
 ·exact QH (JS T.fr) q3
 refine h _ _ _ (F1.push _) (λb o e=>Qj _ (keep1 b o e)) ?_
 have hl:=hx1.look x y
 induction q:ZW Ps x y with
 |some z=>
  rw[q] at hl
  obtain ⟨t,ht⟩:=hl
  exact ⟨t,by rw[ht];rfl⟩
 |none=>
  rw[q] at hl
  dsimp only at hl ⊢
  rw[hl];rfl
def b54:List Stmt:=(Yk 54).2.1
def Bu:Scope:=(Yk 54).2.2
def pFs:List Stmt:=b54.drop 3
def XbO(i:Nat):Stmt:=(pFs[i]?).getD (.Pass Of)
noncomputable def pFl:List (List Nat):=[[1],[0,0,0,0],[0,0,0],[0,0],[0,1,0],[0,1,1],[0,1],[0],[],[0,0,0],[0,0,1],[0,0],[0,1,0,0,0],[0,1,0,0],[0,1,0],[0,1,1,0],[0,1,1,1],[0,1,1],[0,1],[0,2],[0]]
def pF(i:Nat):Pos:=if i=9 then (XbO 0).pos else if i=22 then (XbO 1).pos else UC (XbO (if i < 9 then 0 else 1)) ((pFl[i - 1]?).getD [])
def pFx:Unit×Nat×Nat×Nat:=((),XkV (eAt (XbO 0) [0,1]),XkV (eAt (XbO 1) [0,1,1]),XkV (eAt (XbO 1) [0,0,1]))
def Wt:Str:=QW "found"
def Xaw:Str:=QW "opening_steps"
def DT:Str:=QW "closing_steps"
theorem Xkq:b54=b54.take 3++[.Assign [.Name Wt (pF 1)] (.Call (.Attribute (.Call (.Name Xaw (pF 2)) [] [] (pF 3)) XkN (pF 4)) [.Tuple [.Name stN (pF 5),.Name evN (pF 6)] pFx.2.1 (pF 7)] [] (pF 8)) (pF 9),
   .Return (some (.IfExp (.Compare (.Name Wt (pF 10)) [.Is] [.Constant .none pFx.2.2.2 (pF 11)] (pF 12)) (.Call (.Attribute (.Call (.Name DT (pF 13)) [] [] (pF 14)) XkN (pF 15)) [.Tuple [.Name stN (pF 16),.Name evN (pF 17)] pFx.2.2.1 (pF 18)] [] (pF 19)) (.Name Wt (pF 20)) (pF 21))) (pF 22)]:=by kernel_rfl
def p3M:MS:=
 (Xd (Yn (Xp 0 (Xb 101) (Ju 15)) (Xd (Xq (Jt (Xp 0 (Xb 100) (Xv (.str 1))) (Xv (.str 1)) (Jt (Xp 0 (Xb 100) (Xv (.str 0))) XD (Xv (.str 0))))) Xg) Xg)
 (Xd (Yn (Xp 0 (Xb 101) (Ju 14)) (Xd (Xq (Jt (Xp 0 (Xb 100) (Xv (.str 0))) XD (Xv (.str 0)))) Xg) Xg)
 (Xd (Yn (Xp 0 (Xb 101) (Ju 13)) (Xd (Xq (Jt (Xp 8 (Xb 100) (Yg (Xa (Xv (.str 0)) (Xa (Xv (.str 1)) (Xa (Xv (.str 10)) Xe))))) XD (Xv (.str 0)))) Xg) Xg) Xg)))
theorem XvE:XY Z6 [] Bu [] (b54.take 3)=some p3M:=by kernel_rfl
def kFo:K:=⟨[],[],Xr.get,842,Wd⟩
theorem Xlk(a b:Nat)(h:b=17∨b=18∨b=19):p3M kFo [(100,.str a),(101,.str b)] ⟨.nil,0⟩= .next [(100,.str a),(101,.str b)] ⟨.nil,0⟩:=by
 rcases h with rfl |rfl |rfl<;>rfl
theorem Xom:(XC Bu.names stN=some .local/\XC Bu.names evN=some .local/\XC Bu.names Wt=some .local)/\JN (XC Bu.names Xaw)=true/\JN (XC Bu.names DT)=true:=⟨⟨by kernel_rfl,by kernel_rfl,by kernel_rfl⟩,by kernel_rfl,by kernel_rfl⟩
theorem Xpl:((pF 4).endLine == (pF 8).line)=true/\((pF 15).endLine == (pF 19).line)=true:=⟨by kernel_rfl,by kernel_rfl⟩
theorem Xr2:XC gtL Xaw=some (.fn 751,.ref 751)/\XC gtL DT=some (.fn 758,.ref 758):=⟨by kernel_rfl,by kernel_rfl⟩
theorem Xp5:(Xaw != "super")=true/\(DT != "super")=true/\(Wt == ("__debug__":Str))=false:=⟨by kernel_rfl,by kernel_rfl,by kernel_rfl⟩
def sm(i:Nat):Str:=(Ih[i]?).getD Str.empty
theorem Xqb:Ih[0]?=some (sm 0)/\Ih[17]?=some (sm 17)/\Ih[2]?=some (sm 2)/\Ih[19]?=some (sm 19)/\Ih[4]?=some (sm 4)/\Ih[18]?=some (sm 18)/\Ih[5]?=some (sm 5):=⟨by kernel_rfl,by kernel_rfl,by kernel_rfl,by kernel_rfl,by kernel_rfl,by kernel_rfl,by kernel_rfl⟩
theorem Xj1:ZW Uv (sm 0) (sm 17)=some (sm 2):=by decide +kernel
theorem Xj2:ZW Uv (sm 2) (sm 19)=some (sm 4):=by decide +kernel
theorem Xfj:ZW Uv (sm 4) (sm 18)=none/\ZW (NF++[Da]) (sm 4) (sm 18)=some (sm 5):=by decide +kernel
theorem Xfk:ZW Uv (sm 5) (sm 18)=none/\ZW (NF++[Da]) (sm 5) (sm 18)=none:=by decide +kernel
def UL(x y:Str):Option Str:=match ZW Uv x y with
 |some z=>some z
 |none=>ZW (NF++[Da]) x y
theorem At.grow{Ro Rq σ l h h' m}(Rx:C.cells=[])(T:At C L Ro Rq σ l h m)(F:Fr C.H0 L h' m)(keep:∀b o,h.get? b=some o->h'.get? b=some o):At C L Ro Rq σ l h' m:=
 ⟨(T.rp.grown keep).2 (JS F),F,T.ownL,T.lr,λp hp=>by rw[Rx] at hp;cases hp⟩
theorem Ug(O:C.Ok)(Rx:C.cells=[])(Ry:C.cellv=[])(hK:C.K=KF P)(g:X5 A 2)(hin:∀b o,C.H0.get? b=some o->s.heap.get? b=some o)(hbig:C.H0.objs.size<=s.heap.objs.size){a b:Nat}(hb:b=17∨b=18∨b=19){x y:Str}{u:Tok}(hx:Ih[a]?=some x)(hy:Ih[b]?=some y)
  (hv:∀z,ZW Uv x y=some z->Ih[i]?=some z){Q:Result->Rk->Prop}
  (h:∀h' k val,(match UL x y with |some z=>∃t,val= .str z t |none=>val= .none)->(∀b o,s.heap.get? b=some o->h'.get? b=some o)->C.H0.objs.size<=h'.objs.size->Q (.ok (.ret val)) {s with heap:=h',toks:=k}):
  codeAny (model C.prog C.w) A (.call (.ref 765) ⟨[.str x t,.str y u],[]⟩) Q s:=by
 have HF:Xm C.ρ ([]:XA):=WJ.ok trivial
 have FK:=fx Xm4 O Ry hK 1 Wd ZR
 refine NJ (args:=[.str a,.str b]) O Rx Ry FK g hin hbig (λL=>⟨rfl,rfl,rfl,FK.kind⟩) (.cons (.str a x t hx) (.cons (.str b y u hy) .nil)) (l:=[(100,.str a),(101,.str b)]) rfl λL A' h₀ m tk hL g' T X hk=>?_
 refine YF Xom λzz1 q4 q5=>?_;refine YF zz1 λq1 q2 q3=>?_
 obtain ⟨p1,p2⟩:=Xpl
 obtain ⟨n1,n2⟩:=Xr2
 refine YF Xp5 λu1 u2 u3=>?_
 refine YF Xel λm1 m2 m3=>?_
 have hcvx:∀z,C.cellv.lookup z=none:=λz=>by rw[Ry];rfl
 show wpAny _ _ (execs b54 _) _ _ _
 generalize hen:callEnv _ L 765=env at X ⊢
 replace X:Yu C Bu [] [] L env:=X
 rw[Xkq]
 have ss:=X6 (k:=kFo) (n:=1) O (JO hK) HF YU ZR rfl rfl X XvE
 refine YD (ss A' g' _ _ _ _ _ _ _ T (Xlk a b hb) nofun _ _ λh1 t1 Ru Rv m' G1 T1=>?_)
 have keep1:∀b o,s.heap.get? b=some o->h1.get? b=some o:=λb o e=>by
  have e0:=hk b o e
  exact G1.keep b o e0 rfl (by rintro rfl;rw[hL,Ye] at e;cases e)
 refine QQ (wpAny_Assign_Name (Kl (s:={s with heap:=h1,toks:=t1}) O Ry hK X g' T1 n1 q4 u1 (λ{Q} hd=>Gl O Rx Ry hK g'.cc T1.fr hd) rfl rfl hx hy q1 q2 p1 λh2 t2 val F2 keep2 hval=>?_) (J6 rfl))
 have T2:=At.grow Rx T1 F2 keep2
 obtain ⟨fv,hfv,hcase⟩:∃fv,VR C.ρ Ru fv val/\((fv= .none/\ZW Uv x y=none)∨∃z,fv= .str i/\ZW Uv x y=some z/\∃t,val= .str z t):=by
  induction q:ZW Uv x y with
  |none=>
   rw[q] at hval
   dsimp only at hval
   subst hval
   exact ⟨.none,.none,.inl ⟨rfl,rfl⟩⟩
  |some z=>
   rw[q] at hval
   obtain ⟨tz,rfl⟩:=hval
   exact ⟨.str i,.str i z tz (hv z q),.inr ⟨z,rfl,rfl,tz,rfl⟩⟩
 refine J5 (s:={s with heap:=h2,toks:=t2}) X.l T2 m3 (hcvx _) (X.kind q3) hfv λh3 t3 m3' G3 T3=>?_
 have keep3:∀b o,s.heap.get? b=some o->h3.get? b=some o:=λb o e=>by
  have e2:=keep2 b o (keep1 b o e)
  refine G3.keep b o e2 ?_ (by rintro rfl;rw[hL,Ye] at e;cases e)
  exact (G1.same b o (hk b o e)).trans rfl
 have hE:=X.l
 have ht:SB C 1 L kFo (Xp 6 (Xb 78) XD) (isTrue (.Compare (.Name Wt (pF 10)) [.Is] [.Constant .none pFx.2.2.2 (pF 11)] (pF 12)) env (eval (.Compare (.Name Wt (pF 10)) [.Is] [.Constant .none pFx.2.2.2 (pF 11)] (pF 12)) env)):=
  XeM HF (Xal HF) rfl (Xlw hE m3 (hcvx _) (X.kind q3) u3) XjP rfl
 refine QQ (wpAny_Return_some (IfExp_ ?_))
 have fin:∀h4 t4 (val:Rm),(∀b o,h3.get? b=some o->h4.get? b=some o)->C.H0.objs.size<=h4.objs.size->(match UL x y with |some z=>∃t,val= .str z t |none=>val= .none)->Q (.ok (.ret val)) {s with heap:=h4,toks:=t4}:=λh4 t4 val k4 b4 c4=>h h4 t4 val c4 (λb o e=>k4 b o (keep3 b o e)) b4
 rcases hcase with ⟨rfl,hno⟩ |⟨z,rfl,hz,tz,rfl⟩
 ·refine ht A' g' _ _ _ _ {s with heap:=h3,toks:=t3} _ true _ T3 rfl _ _ λh4 t4 ads4 own4 m4 G4 T4=>?_
  refine Kl (s:={s with heap:=h4,toks:=t4}) O Ry hK X g' T4 n2 q5 u2 (λ{Q} hd=>DU O Rx Ry hK g'.cc T4.fr hd) rfl rfl hx hy q1 q2 p2 λh5 t5 val5 F5 keep5 hval5=>?_
  refine h h5 t5 val5 ?_ (λb o e=>keep5 b o ?_) (JS F5)
  ·unfold UL;rw[hno];exact hval5
  ·refine G4.keep b o (keep3 b o e) ?_ (by rintro rfl;rw[hL,Ye] at e;cases e)
   have e1:=keep1 b o e
   exact (G3.same b o (keep2 b o e1)).trans ((G1.same b o (hk b o e)).trans rfl)
 ·refine ht A' g' _ _ _ _ {s with heap:=h3,toks:=t3} _ false _ T3 rfl _ _ λh4 t4 ads4 own4 m4 G4 T4=>?_
  refine Xlw (C:=C) (n:=1) (k:=kFo) hE m3 (hcvx _) (X.kind q3) u3 A' g' _ _ _ _ {s with heap:=h4,toks:=t4} _ (.str i) _ T4 rfl _ _ λh5 t5 ads5 own5 m5 val5 G5 T5 R5=>?_
  refine h h5 t5 val5 ?_ (λb o e=>?_) T5.rp.big
  ·unfold UL;rw[hz]
   refine R5.strE λz' t' hz'=>?_
   rw[hv z hz] at hz';obtain rfl:=QV hz'
   exact ⟨t',rfl⟩
  ·have o4:own4 b=none:=(G4.same b o (keep3 b o e)).trans ((G3.same b o (keep2 b o (keep1 b o e))).trans ((G1.same b o (hk b o e)).trans rfl))
   have e4:h4.get? b=some o:=G4.keep b o (keep3 b o e) ((G3.same b o (keep2 b o (keep1 b o e))).trans ((G1.same b o (hk b o e)).trans rfl)) (by rintro rfl;rw[hL,Ye] at e;cases e)
   exact G5.keep b o e4 o4 (by rintro rfl;rw[hL,Ye] at e;cases e)
theorem XdA(C:Cx)(P:Rj)(O:C.Ok)(Rx:C.cells=[])(Ry:C.cellv=[])(hK:C.K=KF P):GD C tf0:=by
 refine x07 Xqb λe0 e17 e2 e19 e4 e18 e5=>?_
 intro a b v hm A g s x y t u hin hbig hx hy Q h
 rcases Qe hm with e |hm
 ·cases e
  rw[e0] at hx;obtain rfl:=QV hx
  rw[e17] at hy;obtain rfl:=QV hy
  refine Ug O Rx Ry hK g hin hbig (.inl rfl) (a:=0) (b:=17) (i:=2) e0 e17 (λz hz=>by rw[Xj1] at hz;obtain rfl:=QV hz;exact e2) λh' k val hval=>?_
  unfold UL at hval;rw[Xj1] at hval
  obtain ⟨t,rfl⟩:=hval
  exact h h' k _ λRo=> .str 2 _ t e2
 rcases Qe hm with e |hm
 ·cases e
  rw[e2] at hx;obtain rfl:=QV hx
  rw[e19] at hy;obtain rfl:=QV hy
  refine Ug O Rx Ry hK g hin hbig (.inr (.inr rfl)) (a:=2) (b:=19) (i:=4) e2 e19 (λz hz=>by rw[Xj2] at hz;obtain rfl:=QV hz;exact e4) λh' k val hval=>?_
  unfold UL at hval;rw[Xj2] at hval
  obtain ⟨t,rfl⟩:=hval
  exact h h' k _ λRo=> .str 4 _ t e4
 rcases Qe hm with e |hm
 ·cases e
  rw[e4] at hx;obtain rfl:=QV hx
  rw[e18] at hy;obtain rfl:=QV hy
  refine Ug O Rx Ry hK g hin hbig (.inr (.inl rfl)) (a:=4) (b:=18) (i:=0) e4 e18 (λz hz=>by rw[Xfj.1] at hz;cases hz) λh' k val hval=>?_
  unfold UL at hval;rw[Xfj.1,Xfj.2] at hval
  obtain ⟨t,rfl⟩:=hval
  exact h h' k _ λRo=> .str 5 _ t e5
 rcases Qe hm with e |hm
 ·cases e
  rw[e5] at hx;obtain rfl:=QV hx
  rw[e18] at hy;obtain rfl:=QV hy
  refine Ug O Rx Ry hK g hin hbig (.inr (.inl rfl)) (a:=5) (b:=18) (i:=0) e5 e18 (λz hz=>by rw[Xfk.1] at hz;cases hz) λh' k val hval=>?_
  unfold UL at hval;rw[Xfk.1,Xfk.2] at hval
  dsimp only at hval
  subst hval
  exact h h' k _ λRo=> .none
 cases hm
end Tactic
end Mine
namespace Mine
open PySem PySem.W PySem.Calls PyProof.Rows
theorem Xcj{o:Obj}(h:o.isFreed=false):alive o=some o:=by
 obtain ⟨c,d,dt,sl⟩:=o
 induction dt<;>first |rfl |(simp [Obj.isFreed] at h)
theorem XkO{s:SharedT}{a:Rn}{o:Obj}(h:a < s.n)(g:s.tree.get a=some o)(hf:o.isFreed=false):s.abs.heap.get? a=some o:=by
 show (absHeap s.tree s.n s.life).get? a=_
 rw[abs_get h g,Xcj hf]
def KD(n:Nat):Frag->Bool
 | []=>true
 |p::r=>Nat.blt p.1 n&& !p.2.isFreed&&KD n r
theorem XgD{s:SharedT}:∀{K:Frag}{as:List Rn},as=K.map (·.1)->KD s.n K=true->as.map s.tree.get=K.map (λp=>some p.2)->as.map s.abs.heap.get?=K.map (λp=>some p.2):=by
 intro ux
 induction ux with
 |nil=>
  intro _ e _ _
  subst e;rfl
 |cons p K ih=>
  intro _ e k h
  subst e
  replace k:(Nat.blt p.1 s.n&& !p.2.isFreed&&KD s.n K)=true:=k
  simp only [Bool.and_eq_true,Bool.not_eq_true'] at k
  simp only [QJ,List.cons.injEq] at h ⊢
  exact ⟨XkO (Qv k.1.1) h.1 k.1.2,ih rfl k.2 h.2⟩
theorem Kq{p q:Program}{loose:List Str}{Xt:Rk->Bool}{α:Type}{Yf:Rk->α}{Ya:World->α}{N:Nat}{H₀:Rj->Heap}{d₀:Drawn}{k₀ m₀:Nat}{ann:Option Rm}
  (open_:∀w:World,(fencedOpening treeTable p w N).map (λs=>(s.heap,s.gens,s.drawn,s.toks))=some (H₀ w.params,#[],d₀,k₀))
  (size:∀P:Rj,((H₀ P).isNs mainGlobals&&(#[]:Array GenState).size == 0,(H₀ P).objs.size,(H₀ P).nsMap mainGlobals "__annotations__")=(true,m₀,ann))
  (run:∀(w:World)(os:OsState),∃s₁,topRun treeTable p w m₀ ann N ⟨H₀ w.params,#[],d₀,k₀,os⟩ (topStub p)=some s₁/\
   (staticsOk (importedModules p.main.body) (H₀ w.params) s₁.heap&&namesBound p s₁.heap&&gensDone s₁&&laidKept (H₀ w.params) s₁.heap)=true/\
   openSeen q loose (importedModules p.main.body) Xt true s₁=openGood q loose/\Yf s₁=Ya w):LeftO p q loose Xt Yf Ya N:=λw=>by
 refine YB (Option.map_eq_some_iff.mp (open_ w)) λzz1 e e'=>?_;obtain ⟨h,gs,d,k,os⟩:=zz1
 obtain ⟨rfl,rfl,rfl,rfl⟩:h=H₀ w.params/\gs=#[]/\d=d₀/\k=k₀:=by simpa using e'
 obtain ⟨z1,z2,z3⟩:_/\_/\_:=by simpa only [Prod.mk.injEq] using size w.params
 refine x14 (run w os) λs₁ r l1 l2 l3=>?_
 have t:topFrom treeTable p w N ⟨H₀ w.params,#[],d,k,os⟩=some s₁:=by
  unfold topFrom
  dsimp only
  rw[z1,z2,z3,r]
  show (match staticsOk (importedModules p.main.body) (H₀ w.params) s₁.heap&&namesBound p s₁.heap&&gensDone s₁&&laidKept (H₀ w.params) s₁.heap with |true=>_ |false=>_)=_
  rw[l1]
 unfold openEnds
 rw[e]
 show (topFrom treeTable p w N _).map _=_
 rw[t]
 exact congrArg some (Prod.ext l2 l3)
theorem Xma{β:Type}{p:Program}{w:World}{n₀:Nat}{ann:Option Rm}{N:Nat}{S:SharedT}{S':Rk}{t:Thread}{F:SharedT->β}{V:β}
  (h:(Xe7 p w n₀ ann N S t).map F=some V)(hS:S.abs=S'):∃s,topRun treeTable p w n₀ ann N S' t=some s.abs/\F s=V:=by
 refine YB (Option.map_eq_some_iff.mp h) λs hs hF=>?_
 exact ⟨s,hS▸XhE hs,hF⟩
theorem Xhy{p q:Program}{loose:List Str}{H₀:Rj->Heap}{P:Rj}{as:List Rn}{K:Frag}{n k:Nat}{os:OsState}{s:SharedT}{c:Bool}(hc:c=(staticsOk (importedModules p.main.body) (H₀ P) s.abs.heap&&namesBound p s.abs.heap&&gensDone s.abs&&laidKept (H₀ P) s.abs.heap))
  (h:((s.n,s.gens.size,s.toks,s.os,as.map s.tree.get),c,PySem.W.Fast.tw4187177175401517315 q loose (importedModules p.main.body) (λ_=>true) true s.abs)=
   ((n,0,k,os,K.map (λp=>some p.2)),true,openGood q loose))(e:as=K.map (·.1))(ok:KD n K=true):
  (staticsOk (importedModules p.main.body) (H₀ P) s.abs.heap&&namesBound p s.abs.heap&&gensDone s.abs&&laidKept (H₀ P) s.abs.heap)=true/\
   openSeen q loose (importedModules p.main.body) (λ_=>true) true s.abs=openGood q loose/\as.map s.abs.heap.get?=K.map (λp=>some p.2):=by
 rw[←PySem.W.Fast.te4187177175401517315] at h
 simp only [Prod.mk.injEq] at h
 refine YF h λzz2 f6 f7=>?_;refine x05 zz2 λf1 f2 f3 f4 f5=>?_
 exact ⟨hc▸f6,f7,XgD e (by rw[f1];exact ok) f5⟩
theorem XhQ(P:Rj):KA=(KF P).map (·.1):=by kernel_rfl
theorem Xm5(P:Rj):KD 1343 (KF P)=true:=by kernel_rfl
theorem Bl:opening prog=plainProg prog.main.scope.names:=by kernel_rfl
theorem G9(s:Rk):fenceModules? prog s=some s:=by kernel_rfl
theorem Xa1(P:Rj):((boot_heap P).isNs mainGlobals&&(#[]:Array GenState).size == 0,(boot_heap P).objs.size,(boot_heap P).nsMap mainGlobals "__annotations__")=(true,11,some (.ref 6)):=by kernel_rfl
theorem Xka(w:World)(os:OsState):(S0 w os).abs=⟨boot_heap w.params,#[],boot_drawn,boot_toks,os⟩:=by
 unfold S0 SharedT.abs
 dsimp only
 rw[Xkc]
theorem XvX(w:World)(os:OsState):∃s₁,topRun treeTable prog w 11 (some (.ref 6)) 9100 ⟨boot_heap w.params,#[],boot_drawn,boot_toks,os⟩ (topStub prog)=some s₁/\
   (staticsOk (importedModules prog.main.body) (boot_heap w.params) s₁.heap&&namesBound prog s₁.heap&&gensDone s₁&&laidKept (boot_heap w.params) s₁.heap)=true/\
   openSeen q0 Uj (importedModules prog.main.body) (λ_=>true) true s₁=openGood q0 Uj/\KA.map s₁.heap.get?=(KF w.params).map λp=>some p.2:=
 match Xma (XvW w os) (Xka w os) with
 |⟨s,r,hF⟩=>⟨s.abs,r,Xhy (p:=prog) (H₀:=boot_heap) (P:=w.params) (c:=staticsOk (importedModules prog.main.body) (boot_heap w.params) s.abs.heap&&JD s.abs.heap&&gensDone s.abs&&laidKept (boot_heap w.params) s.abs.heap)
   (congrArg (λb=>staticsOk (importedModules prog.main.body) (boot_heap w.params) s.abs.heap&&b&&gensDone s.abs&&laidKept (boot_heap w.params) s.abs.heap) (Ob s.abs.heap)) hF (XhQ _) (Xm5 _)⟩
theorem Xoi:LeftO prog q0 Uj (λ_=>true) (λs=>KA.map s.heap.get?) (λw=>(KF w.params).map λp=>some p.2) 9100:=
 Kq (boot_open (p:=prog) (N:=9100) Bl rfl G9) Xa1 XvX
end Mine
namespace Mine
namespace Tactic
open PySem PySem.W PySem.Spec PySem.Calls PyProof.Rows
theorem DS:ZZ (.builtin "claim.caller" {})=true:=by
 show (!(Builtin.Bytes.decodersThatHold.contains "claim.caller"))=true
 decide +kernel
theorem XnM{prog:Program}{w:World}{t:Sem Fin}{s:Rk}{R:Result->Rk->Prop}(hz:s.asleep)
  (h:Za (model prog w) callerA t (λfin s'=>∃f,fin= .done f/\(R (.ok f) s'/\AllBare s'.gens)) (λe s'=>R (.error e) s'/\AllBare s'.gens) s):
  ∃n r s' s'',runN (denote table) prog w n s ⟨t,.builtin "claim.caller" {},default,[]⟩= .halted (outcomeOf r) s'/\
   schedN (denote table) prog w n (.single s ⟨t,.builtin "claim.caller" {},default,[]⟩)= .halted (outcomeOf r) s'/\s'.forget=s''.forget/\R r s'':=by
 have hw:=h _ (default:Pos) caller_in DS (λx hx=>by cases hx)
 have hw':Sem.wp (model prog w) ⟨.builtin "claim.caller" {},none,none,[],none⟩ t (Sem.finPost (model prog w) ⟨.builtin "claim.caller" {},none,none,[],none⟩ λr s'=>R r s'/\leftWithCleanup s'.gens=false) (λe _ s'=>R (.error e) s'/\leftWithCleanup s'.gens=false) default s:=by
  refine Sem.wp_mono _ _ t (λfin p' s' z=>?_) (λe p' s' z=>⟨z.1,leftWithCleanup_false_of_bare z.2⟩) _ _ hw
  refine YO z λf zz1 z1 z2=>?_;subst zz1
  exact ⟨z1,leftWithCleanup_false_of_bare z2⟩
 refine x44 (wp_halts_full (M:=model prog w) (R:=R) hz hw') λn r s₁ s₂ hs hn hfo hR=>?_
 exact ⟨n,r,s₂,s₁,hn,hs,hfo,hR⟩
theorem Xa5{c:ClaimW}{tree:List Rm->Sem Fin}{w:World}{s:Rk}{free:Rn->Prop}{gens:Prop}{kept:Heap->Prop}(hz:s.asleep)(hgens:s.gens=#[])
  (spec:∀args,c.pre args=true->WData.layableAll args=true->∀ord:List DictEntry->List DictEntry,(∀l,(ord l).Perm l)->
   ∃vs s₁,layAllW c.records (classAt s.heap) w.params ord args s=some (vs,s₁)/\
    Za (model c.prog w) callerA (tree vs) (λfin s'=>∃f,fin= .done f/\((c.Ends s args vs s₁ (.ok f) s'/\s'.os=s.os/\kept s'.heap)/\AllBare s'.gens))
     (λe s'=>(c.Ends s args vs s₁ (.error e) s'/\s'.os=s.os/\kept s'.heap)/\AllBare s'.gens) s₁):
  c.CallFrom (λvs=>⟨tree vs,.builtin "claim.caller" {},default,[]⟩) w free gens kept s:=λargs hp hl ord ho=>by
 refine Y5 (spec args hp hl ord ho) λvs s₁ e1 hw=>?_
 have rest:=layAllW_rest _ _ _ e1
 refine x46 (XnM (R:=λr s'=>c.Ends s args vs s₁ r s'/\s'.os=s.os/\kept s'.heap) (Shared.asleep_of_life rest.2.2.2 hz) hw) λk r s' s'' hrun hsched hfo hends hos hkp=>?_
 refine x05 (Shared.forget_eq hfo) λeh _ _ eo _=>?_
 have hends:=hends.congr eh
 rw[←eh] at hkp
 rw[←eo] at hos
 have life:s'.heap.life=s.heap.life:=(runN_life _ _ _ hrun).trans rest.2.2.2
 refine ⟨vs,s₁,e1,k,_,s',hsched,?_,λ_ i x hx=>by rw[hgens] at hx;simp at hx,hkp,by rw[life],Shared.rest_eq hos⟩
 rcases hends with ⟨v,rfl,d1,d2,d3,d4,d5⟩ |⟨e,ob,cls,rfl,d1,d2,d3,d4,d5⟩
 ·exact .inl ⟨v,rfl,d1,d2,d3,λb o y _=>d4 b o y,d5⟩
 ·exact .inr ⟨e,ob,cls,rfl,d1,d2,d3,d4,λb o y _=>d5 b o y⟩
abbrev J8:OpenRow:=PySem.Challenge.rw_pq1202_01.row
noncomputable abbrev XT:(Str->Option Rm)->Heap->Prop:=λ_ _=>True
abbrev Yf1:Rk->List (Option Obj):=λs=>KA.map s.heap.get?
abbrev Ya1:World->List (Option Obj):=λw=>(KF w.params).map λp=>some p.2
def Ko:DefRec:=match defOf q0 (QW "law") with
 |some (d,_)=>d
 |none=>⟨default,default,default,default,default⟩
theorem D7:defOf q0 J8.name=some (Ko,[]):=by kernel_rfl
theorem XkX:J8.prog.theDef J8.name=some (Ko.params,Ko.body,Ko.scope):=by kernel_rfl
theorem XkY:kwWritten? Ko.params.kwonlyargs Ko.params.kw_defaults=some []:=by kernel_rfl
theorem M2:chainsOk q0=true:=by kernel_rfl
theorem Xby:opensWell J8.prog=true:=by kernel_rfl
theorem Xbx:frees J8.toRowW=true:=by kernel_rfl
theorem M4:J8.within.isEmpty=true:=by kernel_rfl
theorem Xd2:J8.prog.bare:=⟨rfl,rfl,rfl,rfl,rfl,by kernel_rfl⟩
theorem W9:J8.toRowW.promised:=by w_witness2
noncomputable abbrev Xci:Prop:=
 ∀(w:World)(s₀ s₁:Rk)(mg mb:Str->Option Rm),Ground q0 Uj J8.records XT w s₀ mg mb s₁.heap->Yf1 s₀=Ya1 w->∀(a:Rn),mg Ko.name=some (.ref a)->s₁.gens=#[]->
  ∀(args:List WData)(vals:List Rm)(as:List Rn),Laid J8.records w s₀ s₁ args vals as->J8.toRowW.claim.pre args=true->WData.layableAll args=true->ReadsAllW J8.records (classAt s₀.heap) s₁.heap vals args as->WellAll w.params s₁.heap vals args->(∀a∈as,(a == sysModules)=false)->
   Za (model J8.prog w) callerA (call (.ref a) vals) (λv s'=>GoodWG J8.toRowW.claim (classAt s₀.heap) (ExcName.means s₀.heap) args s₁ (.ok (.ret v)) s') (λ_ _=>False) s₁
noncomputable abbrev Xqa(vs:List Rm):Sem Fin:=do match ←nsGet mainNs J8.name with
 |some f=>do ret (←PySem.call f vs)
 |none=>unsupported "claim.caller:no-such-global"
theorem XmD:(!J8.writes||J8.toRowW.claim.records.isEmpty)=true:=by kernel_rfl
theorem XvT(s:Rk):RecFacts J8.records s.heap:=⟨λx hx=>(nomatch hx),λx hx=>(nomatch hx),λc c' a hc=>(nomatch hc),λc fs hf=>(nomatch hf)⟩
theorem Xsd(k1:J8.wellSaid=true)(walk:Xci):J8.Holds:=by
 refine ⟨k1,W9,⟨Xd2,Xby,?_⟩,W9.witness,λw=>?_⟩
 ·rfl
 refine x05 (frees_parts Xbx) λhsame hu ha hap hm=>?_
 have beh:=Xoi.behind (XP:=λmg h=>XT mg h/\RecFacts J8.records h) (λs _=>⟨trivial,XvT s⟩) M2 w
 refine ⟨beh.1,λs' hs'=>?_⟩
 refine YO (beh.2 s' hs') λs₀ hf hg0 zz2=>?_;refine x16 zz2 λs hT hz hgens hg G00 y=>?_
 have G0:Ground q0 Uj [] XT w s (s.heap.nsMap mainGlobals) (s.heap.nsMap builtinsNs) s.heap:=⟨G00.T,G00.B,G00.D,G00.TE,G00.TD,G00.W,trivial,G00.cls,G00.has,G00.apart,G00.once,G00.K⟩
 have RF:=G00.X.2
 have G:Ground q0 Uj J8.records XT w s _ _ s.heap:=RF.ground G0
 have hgens:s.gens=#[]:=Array.eq_empty_of_size_eq_zero (beq_iff_eq.mp hgens)
 refine ⟨s₀,hf,hg0,s,hT,λn hn=>?_,RF.1,RF.2.1,?_⟩
 ·obtain rfl:n=J8.name:=by split at hn<;>simp_all
  exact pinned_of_view hg G0 D7 XkX XkY
 refine Xa5 (c:=J8.toRowW.claim) hz hgens λargs hpre hlay ord hord=>?_
 obtain ⟨⟨vs,s₁⟩,hlaid⟩:=Option.isSome_iff_exists.mp (layAllW_isSome (P:=w.params) (ord:=ord) G.has args J8.args s (pre_splitW hpre).1)
 have keeps:=layAllW_keeps _ _ _ hlaid
 have rest:=layAllW_rest _ _ _ hlaid
 refine YO (reads_layAllW hord _ _ _ hlaid hlay s₁.heap (λ_ _ e=>e)) λas hrd hin hold=>?_
 have L:Laid J8.records w s s₁ args vs as:=⟨⟨ord,hord,hlaid⟩,hrd,hin,hold,keeps,rest.1.trans hgens,rest.2.2.1⟩
 have G₁:=G.keeps (λ_ _ _ _ _=>trivial) keeps
 refine x75 (G₁.fn D7) λa o pm cd doc dV kV h1 h2 h3 h4 h5=>?_
 have hwk:=walk w s s₁ _ _ G₁ y a (defOf_name D7▸h1) L.gens args vs as L hpre hlay L.reads L.well (L.low G.low)
 refine ⟨vs,s₁,hlaid,?_⟩
 show Za _ _ (Xqa vs) _ _ _
 refine ZV (wpAny_nsGet G₁.T.g ?_)
 rw[h1]
 refine Zf (Jk hwk (λv s' g=>Jl ⟨_,rfl,?_⟩) λ_ _ z=>z.elim)
 have z:=g.laid (c:=J8.toRowW.claim) hsame (List.isEmpty_iff.mp M4) (ident_freeW hu ha hap) L
 exact ⟨⟨z.1,z.2.1,λq=>⟨namesKept_of hT hg _ keeps g.2.1.old,noTable XmD q⟩⟩,z.2.2⟩
theorem MX{d:WData}(h:WShape.has J8.records d .int=true):∃z,d= .int z:=by
 cases d<;>first |exact ⟨_,rfl⟩ |exact Bool.noConfusion (show false=true from h)
theorem Kr{d:WData}(h:WShape.has J8.records d (.list .int)=true):∃xs,d= .list xs/\WShape.hasItems J8.records xs .int=true:=by
 cases d<;>first |exact Bool.noConfusion (show false=true from h) |exact ⟨_,rfl,(Bool.or_false _).symm.trans h⟩ |exact ⟨_,rfl,h⟩
section
variable {R:WRecords}{cl:Str->Option Rn}{h:Heap}{as:List Rn}
theorem XlG{Q:Rm->Int->Prop}(f:∀z t,Q (.int z t) z){v:Rm}{d:WData}(x:ReadsW R cl h v d as):∀z,d= .int z->Q v z:=by
 cases x<;>intro z e<;>first |(injection e;done) |(injection e with e;subst e;exact f _ _)
theorem XpI{v:Rm}{d:WData}(x:ReadsW R cl h v d as):∀z,d= .int z->∃t,v= .int z t:=XlG (Q:=λv z=>∃t,v= .int z t) (λ_ t=>⟨t,rfl⟩) x
theorem Xhq{Q:Rm->List WData->Prop}(f:∀a o vs n xs bs,h.get? a=some o->o.cls= .type "list"->o.data= .seq vs n->ReadsAllW R cl h vs.toList xs bs->Q (.ref a) xs){v:Rm}{d:WData}(x:ReadsW R cl h v d as):∀xs,d= .list xs->Q v xs:=by
 cases x<;>intro xs e<;>first |(injection e;done) |(injection e with e;subst e;exact f _ _ _ _ _ _ (by assumption) (by assumption) (by assumption) (by assumption))
theorem XlH{v:Rm}{d:WData}(x:ReadsW R cl h v d as):∀xs,d= .list xs->∃a o vs n bs,v= .ref a/\h.get? a=some o/\o.cls= .type "list"/\o.data= .seq vs n/\ReadsAllW R cl h vs.toList xs bs:=
 Xhq (Q:=λv xs=>∃a o vs n bs,v= .ref a/\h.get? a=some o/\o.cls= .type "list"/\o.data= .seq vs n/\ReadsAllW R cl h vs.toList xs bs) (λa o vs n _ bs h1 h2 h3 h4=>⟨a,o,vs,n,bs,rfl,h1,h2,h3,h4⟩) x
theorem Br{vs:List Rm}{ds:List WData}(x:ReadsAllW R cl h vs ds as):∀d r,ds=d::r->∃v ws a b,vs=v::ws/\ReadsW R cl h v d a/\ReadsAllW R cl h ws r b:=by
 cases x with
 |nil=>exact λd r e=>nomatch e
 |cons y z=>exact λd r e=>by obtain ⟨rfl,rfl⟩:=List.cons.inj e;exact ⟨_,_,_,_,rfl,y,z⟩
theorem XeR{vs:List Rm}{ds:List WData}(x:ReadsAllW R cl h vs ds as):ds=[]->vs=[]:=by
 cases x with
 |nil=>exact λ_=>rfl
 |cons y z=>exact λe=>nomatch e
theorem XpJ{vs:List Rm}{ds:List WData}:∀{as:List Rn},ReadsAllW R cl h vs ds as->vs.length=ds.length:=by
 induction ds generalizing vs with
 |nil=>exact λx=>by rw[XeR x rfl];rfl
 |cons d r ih=>
  intro as x
  obtain ⟨_,_,_,_,e,_,z⟩:=Br x _ _ rfl
  rw[e,Qp,Qp,ih z]
end
set_option tactic.hygienic true
theorem XbV{cl:Str->Option Rn}{h:Heap}{args:List WData}{vals:List Rm}{as:List Rn}(hpre:J8.toRowW.claim.pre args=true)(hrd:ReadsAllW J8.records cl h vals args as):
  ∃a items,vals=[.ref a]/\h.IsList a (items:List Rm).toArray/\items.length<=63/\(items=[]∨∃z t,items[0]?=some (.int z t)):=by
 obtain ⟨h1,h2⟩:=pre_splitW hpre
 replace h1:WShape.hasAll J8.records args [.list .int]=true:=h1
 refine UB (hasAllW_cons h1) λd r zz1 k1 k2=>?_;subst zz1
 have:=hasAllW_nil k2
 subst this
 refine YB (Kr k1) λxs zz2 k3=>?_;subst zz2
 have hlen:xs.length<=63:=by
  replace h2:WTm.holds J8.records J8.pre {args:=[.list xs]}=true:=h2
  have hp:J8.pre= .and (.not (.lt (.lit (.int 63)) (.len (.arg 0)))) (.lit (.bool true)):=rfl
  rw[hp] at h2
  by_cases q:xs.length<=63
  ·exact q
  ·exfalso
   have:(63:Int) < xs.length:=by lia
   have hl:W.less? (.int 63) (.int xs.length)=some true:=by
    show some (decide ((63:Int) < xs.length))=_
    rw[Qo this]
   simp [WTm.holds,WTm.value,hl] at h2
 obtain ⟨v,vs',_,_,rfl,hv,hr⟩:=Br hrd _ _ rfl
 obtain rfl:=XeR hr rfl
 obtain ⟨a,o,vs,n,bs,rfl,ho,hc,hd,hall⟩:=XlH hv _ rfl
 refine ⟨a,vs.toList,rfl,⟨o,ho,hc,n,by rw[hd]⟩,by rw[XpJ hall];exact hlen,?_⟩
 induction xs with
 |nil=>exact .inl (XeR hall rfl)
 |cons x xs=>
  replace k3:(WShape.has J8.records x .int&&WShape.hasItems J8.records xs .int)=true:=k3
  refine b2 k3 λk4 _=>?_
  obtain ⟨z,rfl⟩:=MX k4
  obtain ⟨y,ys,_,_,e,hy,_⟩:=Br hall _ _ rfl
  obtain ⟨t,rfl⟩:=XpI hy _ rfl
  exact .inr ⟨z,t,by rw[e];rfl⟩
def X0:Mj:=⟨⟨Mg.get,Xr.get,842⟩,[],[],hkA [] ⟨[],[],tf0,[]⟩⟩
def r0:Je:=run X0 60
def K0:K:=⟨[],[],Xr.get,842,Xkw X0 r0⟩
def l0(sa:Nat):YG:=[(166,.fn sa)]
def l1(sa:Nat):YG:=[(166,.fn sa),(123,.ref 1)]
noncomputable def stA:St:=⟨.node (some (.flds 863 [(6,.int ⟨256,[]⟩),(19,.int ⟨4,[]⟩),(116,.int ⟨40,[]⟩),(117,.int ⟨16,[]⟩),(118,.int ⟨6,[]⟩),(119,.int ⟨4,[]⟩),(120,.int ⟨24,[]⟩),(32,.int ⟨2,[]⟩),(121,.int ⟨2,[]⟩),(122,.int ⟨12,[]⟩)])) (.node (some (.inst 863 0)) .nil .nil) .nil,2⟩
def okT(r:Xu):Bool:=r.to false λv _=>bK v false id
theorem Xeq{r:Xu}(h:okT r=true):∃s,r= .ok (.bool true) s:=by
 induction r with
 |no=>exact ff h
 |ok v s=>exact bKE h Ri λb e e1=>⟨s,by rw[e,show b=true from e1]⟩
set_option tactic.hygienic false
def XdZ:M:=Xfs (Xf5 X0 r0) (Xk (.fn 1335) Xe)
theorem Xmd(sa:Nat):s1M K0 (l0 sa) ⟨.nil,0⟩= .next (l1 sa) stA:=by kernel_rfl
theorem BD(sa:Nat):okT (XaI K0 (l1 sa) stA)=true:=by kernel_rfl
theorem Xbv(sa:Nat):okT (XdZ K0 (l0 sa) ⟨.nil,0⟩)=true:=by kernel_rfl
theorem Xkn{ρ:Nat->Int}:BM ρ []:=λ_ _ _ _ h=>by cases h
theorem XhL{ρ:Nat->Int}:DF ρ []:=λ_ _ _ _ _ h=>by cases h
theorem Xlf{ρ:Nat->Int}:IQ ρ []:=λ_ _ _ h=>by cases h
theorem XpH{C:Cx}{P:Rj}(O:C.Ok)(Rx:C.cells=[])(Ry:C.cellv=[])(hK:C.K=KF P)(hf:GD C tf0):XB C 62 r0:=by
 have hF:Xm C.ρ []:=WJ.ok trivial
 exact Um (X:=X0) (m:=2) Rx O rfl rfl hF YU (Nu O Ry hK) (Xak O Rx Ry hK hF Xkn XhL hf Xlf) 60
def DD(C:Cx)(p q:Int):Prop:=∃k b src src5 src4 F G cal,Xm C.ρ F/\XS C.ρ G/\XB C 65 cal/\
 s4M ⟨F,G,Xr.get,842,cal⟩ [(171,.ref 0)] (st1 src4)= .next Il (JG src5 k)/\s5M ⟨F,G,Xr.get,842,cal⟩ Il (JG src5 k)= .next (NO b) (JG src k)/\
 WL C 65 b src k/\Iy C 65 b k/\U8 C 65 k/\Jw C.ρ p q src4
section
variable {C:Cx}{P:Rj}{L:Rn}{A:Around}{env:Env}{s:Rk}
theorem At.forget{Ro Rq σ l h m l'}(T:At C L Ro Rq σ l h m)(hl:∀n v',Xh l' n=some v'->Xh l n=some v'/\∀i,v'≠ .ref i):∃adc Rt,At C L adc Rt ⟨.nil,0⟩ l' h m:=by
 refine T.cut (σc:=⟨.nil,0⟩) (js:=[]) QP rfl nofun (λadc _ i o' e=>by injection e) λadc _ n v' e=>?_
 obtain ⟨h1,h2⟩:=hl n v' e
 refine ⟨v',h1,λy hy=>?_⟩
 induction hy<;>first |exact absurd rfl (h2 _) |(constructor;done) |(constructor;assumption)
theorem Kn{sa:Nat}:∀n v',Xh (l0 sa) n=some v'->Xh (l1 sa) n=some v'/\∀i,v'≠ .ref i:=λn v' h=>by
 have hm:=Zs h
 rcases Qe hm with e |hm
 ·cases e;exact ⟨rfl,nofun⟩
 ·cases hm
theorem XgN{sa:Nat}:∀n v',Xh (l0 sa) n=some v'->Xh (l0 sa) n=some v'/\∀i,v'≠ .ref i:=λn v' h=>⟨h,(Kn n v' h).2⟩
theorem XgQ(O:C.Ok)(Rx:C.cells=[])(Ry:C.cellv=[])(hK:C.K=KF P)(X:Yu C Wm [] [] L env)(g:YK A 65){sa:Rn}{vals:List Rm}(hsa:C.H0.IsList sa vals.toArray)(hv:vals.length<=60000)
  {z:Int}(hz:(vals=[]/\z=0)∨∃t,vals[0]?=some (.int z t))(hl:GF C.ρ z vals.length)(hR:DD C (Jp z) (Jq z)){Ro Rq m}(T:At C L Ro Rq ⟨.nil,0⟩ (l0 sa) s.heap m):
  wpAny (model C.prog C.w) A (execs (S3::((bW.drop 3).take 1++(S5::i6.st U4 Dg::S7::[]))) env) (XaN C s) (λ_ _=>False) s:=by
 refine x56 (Xg9 (n:=64) O Rx Ry hK hsa hv hz hl) λF G m0 p q f1 f2 f3 f4 f5 f6=>?_
 refine x88 hR λk b src src5 src4 F' G' cal h1 h2 h3 h4 h5 h6 h7 zz1=>?_;obtain ⟨h8,h9⟩:=zz1
 have ss:=X6 (k:=⟨F,G,Xr.get,842,Ii (XP F G) m0⟩) O (JO hK) f1 f2 f3 rfl rfl X XvZ
 have e:(Xd s3M Xg) ⟨F,G,Xr.get,842,Ii (XP F G) m0⟩ (l0 sa) ⟨.nil,0⟩= .next [(166,.fn sa),(171,.ref 0)] (stP p q):=by
  show Zk.to (s3M ⟨F,G,Xr.get,842,Ii (XP F G) m0⟩ [(166,.fn sa)] ⟨.nil,0⟩) _=_
  rw[f4]
  rfl
 show wpAny _ _ (execs ([S3]++_) env) _ _ _
 refine YD (ss A g _ _ _ _ _ _ _ T e nofun _ _ ?_)
 intro h' t Rr Rt m' G1 T1
 refine YF (XeA z) λk1 k2 k3=>?_
 have T2:At C L Rr Rt (st1 src4) [(171,.ref 0)] h' m':=T1.src (by rw[f5];exact k1) (by rw[f6];exact k2) (by rw[f6];exact k3) (by rw[f5,f6];exact h9) λn v' h=>by
  have hm:=Zs h
  rcases Qe hm with e |hm
  ·cases e;rfl
  ·cases hm
 exact XgR (s:={s with heap:=h',toks:=t}) O hK Ry X g h1 h2 h3 h4 h5 h6 h7 h8 T2
theorem XgP(O:C.Ok)(Rx:C.cells=[])(Ry:C.cellv=[])(hK:C.K=KF P)(hf:GD C tf0)(X:Yu C Wm [] [] L env)(g:YK A 65){sa:Rn}{vals:List Rm}(hsa:C.H0.IsList sa vals.toArray)(hv:vals.length<=60000)
  {z:Int}(hz:(vals=[]/\z=0)∨∃t,vals[0]?=some (.int z t))(hl:GF C.ρ z vals.length)(hR:DD C (Jp z) (Jq z)){Ro Rq m}(T:At C L Ro Rq ⟨.nil,0⟩ (l0 sa) s.heap m):
  Za (model C.prog C.w) A (execs bW env) (XaN C s) (λ_ _=>False) s:=by
 have hF:Xm C.ρ []:=WJ.ok trivial
 have TB:Ua C Z6:=JO hK
 have hr:=XpH O Rx Ry hK hf
 have hT:XB C 65 (Xkw X0 r0):=(Xf9 (X:=X0) O Rx Ry hK rfl rfl hF YU hr).le (by decide)
 have hLc:UE C 65 (Xf5 X0 r0):=Xf6 (X:=X0) O Rx Ry hK rfl rfl hF YU hr
 have s1:=X6 (k:=K0) O TB hF YU hT rfl rfl X XvY
 obtain ⟨σa,ea⟩:=Xeq (BD sa)
 obtain ⟨σb,eb⟩:=Xeq (Xbv sa)
 rw[Xnf]
 refine I3 (Yr (s1 A g _ _ _ _ _ _ _ T (Xmd sa) nofun _ _ ?_))
 intro h1 t1 Ru Rv m1 G1 T1
 have hx:=YC (k:=K0) (n:=65) O TB hF YU hT rfl rfl 40 Wm [] L env X _ _ Xe8
 refine YF (TB.gl _ _ _ Xd1) λg1 g2 g3=>?_
 obtain ⟨g4,g5⟩:=TB.fn _ _ _ Xd1 rfl
 have hy:SEG C 65 L K0 XdZ (eval (.Call (.Name Xaq i2.pb) i2.ab [] i2.qb) env):=by
  rw[Xd0]
  exact XdE (Ki (k:={K0 with call:=Xf5 X0 r0}) O hLc (KN X.l O g1 g2 (X.kind XkW) g3) g4 g5 rfl Xlx λ_=>rfl)
 refine MT (XgG (s:={s with heap:=h1,toks:=t1}) hx hy g T1 ea λh2 t2 Rz RA m2 T2=>?_)
 refine x21 (T2.forget (l':=l0 sa) Kn) λRB RC T3=>?_
 refine ⟨RB,RC,_,_,_,T3,eb,λh4 t4 ads4 own4 m4 T4=>?_⟩
 refine x21 (T4.forget (l':=l0 sa) XgN) λads5 own5 T5=>?_
 exact Yr (XgQ (s:={s with heap:=h4,toks:=t4}) O Rx Ry hK X g hsa hv hz hl hR T5)
end
noncomputable abbrev S2:=Int×Int
def tk(s:S2)(t:Int):Int:=(YA s.1 s.2 t).1
def ts(s:S2)(t:Int):S2:=(YA s.1 s.2 t).2
def II(s:S2):Prop:=0<=s.1/\0<=s.2
theorem Ja{s:S2}(h:II s){t:Int}(ht:0 < t):(0<=tk s t/\tk s t < t)/\II (ts s t):=by
 unfold tk ts YA II
 obtain ⟨h1,h2⟩:=h
 by_cases hp:0 < s.1
 ·rw[if_pos hp]
  exact ⟨⟨Int.emod_nonneg _ (by lia),Int.emod_lt_of_pos _ ht⟩,Int.ediv_nonneg h1 (by lia),h2⟩
 ·rw[if_neg hp]
  exact ⟨⟨Int.emod_nonneg _ (by lia),Int.emod_lt_of_pos _ ht⟩,h1,Int.emod_nonneg _ (by decide)⟩
def dw1(s:S2):S2:=ts s 8
def dw2(s:S2):S2:=ts (dw1 s) 3
def dw3(s:S2):S2:=ts (dw2 s) 30
def dw4(s:S2):S2:=ts (dw3 s) 3
def dw5(s:S2):S2:=ts (dw4 s) 30
def dw6(s:S2):S2:=ts (dw5 s) 2
def dw7(s:S2):S2:=ts (dw6 s) 3
def dw8(s:S2):S2:=ts (dw7 s) 3
def un(s:S2):S2:=ts (ts (ts s 3) 3) 2
def uk(s:S2):Nat->S2
 | 0=>dw8 s
 |t + 1=>un (uk s t)
def kD(s:S2):Nat:=1 + (tk (dw3 s) 3).toNat
def nD(s:S2):Nat:=1 + (tk (dw4 s) 30).toNat
def cD(s:S2):Bool:=decide (tk (dw5 s) 2=0)
def wD(s:S2):Int:=tk (dw6 s) 3
def sD(s:S2):Int:=tk (dw7 s) 3
def fD(s:S2):Int:=2 + tk s 8
def OG(s:S2):Int:=2 + tk (dw1 s) 3
def ON(s:S2):Int:=9 + tk (dw2 s) 30
def wA(s:S2)(n:Int):Int:=Yq (n * Yq (fD s) (OG s) (ON s)) (OG s) (ON s)
def wV(s:S2):Int:=if wD s=0 then 8 else if wD s=1 then 12 else 40
def sV(s:S2):Int:=if sD s=0 then 8 else if sD s=1 then 16 else 31
noncomputable def Ov(s:S2):Nat:=if nD s<=7 then (if wV s<=sV s then 6 else 7) else if wD s=0 then 0 else if sD s=0 then 1 else if wD s=1 then 2 else if nD s<=15 then 5 else if sD s=1 then 3 else 4
def flD(s:S2):Nat:=MM (nD s) (cD s) (Ov s)
def nxD(s:S2):Nat:=nxA (nD s) (cD s) (Ov s)
def hcD(s:S2):Nat:=hcF (nD s) (cD s) (Ov s)
def hlD(s:S2):Int:=(flD s:Int) / 2
noncomputable def XvV(s:S2)(z:Int)(len:Nat):List (Nat×Int):=[(0,fD s),(1,OG s),(2,ON s),(10,Yq (fD s) (OG s) (ON s)),(11,wA s 2),(12,wA s 4),(13,wA s 8),
 (20,tk (uk s 0) 3),(21,tk (uk s 1) 3),(22,tk (uk s 2) 3),(30,tk (ts (uk s 0) 3) 3),(31,tk (ts (uk s 1) 3) 3),(32,tk (ts (uk s 2) 3) 3),
 (40,tk (ts (ts (uk s 0) 3) 3) 2),(41,tk (ts (ts (uk s 1) 3) 3) 2),(42,tk (ts (ts (uk s 2) 3) 3) 2),(50,wV s),(51,sV s),(60,z),(61,Jf z % 2147483629),(62,Jq z),(63,(len:Int)),
 (70,tk (uk s (kD s)) 7),(71,tk (ts (uk s (kD s)) 7) 3),(80,wD s),(81,sD s),(90,(nxD s:Int)),(91,(flD s:Int)),(92,(kD s:Int)),(93,hlD s),(94,(nxD s:Int)),(95,(flD s:Int)),(96,if hcD s=2 then hlD s else 8)]
def rho(z:Int)(len:Nat)(i:Nat):Int:=(Xh (XvV (Jp z,Jq z) z len) i).getD 0
structure RE(ρ:Nat->Int)(s:S2):Prop where
 ok:II s
 r0:ρ 0=fD s
 r1:ρ 1=OG s
 r2:ρ 2=ON s
 r10:ρ 10=Yq (fD s) (OG s) (ON s)
 r11:ρ 11=wA s 2
 r12:ρ 12=wA s 4
 r13:ρ 13=wA s 8
 r20:ρ 20=tk (uk s 0) 3
 r21:ρ 21=tk (uk s 1) 3
 r22:ρ 22=tk (uk s 2) 3
 r30:ρ 30=tk (ts (uk s 0) 3) 3
 r31:ρ 31=tk (ts (uk s 1) 3) 3
 r32:ρ 32=tk (ts (uk s 2) 3) 3
 r40:ρ 40=tk (ts (ts (uk s 0) 3) 3) 2
 r41:ρ 41=tk (ts (ts (uk s 1) 3) 3) 2
 r42:ρ 42=tk (ts (ts (uk s 2) 3) 3) 2
 r50:ρ 50=wV s
 r51:ρ 51=sV s
 r70:ρ 70=tk (uk s (kD s)) 7
 r71:ρ 71=tk (ts (uk s (kD s)) 7) 3
 r80:ρ 80=wD s
 r81:ρ 81=sD s
 r90:ρ 90=nxD s
 r91:ρ 91=flD s
 r92:ρ 92=kD s
 r93:ρ 93=hlD s
 r94:ρ 94=nxD s
 r95:ρ 95=flD s
 r96:ρ 96=if hcD s=2 then hlD s else 8
theorem XpK(z:Int)(len:Nat):RE (rho z len) (Jp z,Jq z):=by
 refine YF (XeA z) λh1 h2 h3=>?_
 exact ⟨⟨h1,h2⟩,rfl,rfl,rfl,rfl,rfl,rfl,rfl,rfl,rfl,rfl,rfl,rfl,rfl,rfl,rfl,rfl,rfl,rfl,rfl,rfl,rfl,rfl,rfl,rfl,rfl,rfl,rfl,rfl,rfl⟩
theorem XeC(z:Int)(len:Nat):GF (rho z len) z len:=⟨rfl,rfl,rfl,rfl⟩
section
variable {s:S2}
theorem N2(h:II s):II (dw1 s)/\II (dw2 s)/\II (dw3 s)/\II (dw4 s)/\II (dw5 s)/\II (dw6 s)/\II (dw7 s)/\II (dw8 s):=by
 have h1:=(Ja h (t:=8) (by decide)).2
 have h2:=(Ja h1 (t:=3) (by decide)).2
 have h3:=(Ja h2 (t:=30) (by decide)).2
 have h4:=(Ja h3 (t:=3) (by decide)).2
 have h5:=(Ja h4 (t:=30) (by decide)).2
 have h6:=(Ja h5 (t:=2) (by decide)).2
 have h7:=(Ja h6 (t:=3) (by decide)).2
 have h8:=(Ja h7 (t:=3) (by decide)).2
 exact ⟨h1,h2,h3,h4,h5,h6,h7,h8⟩
theorem Xfl(h:II s):∀t,II (uk s t)
 | 0=>(N2 h).2.2.2.2.2.2.2
 |t + 1=>(Ja (Ja (Ja (Xfl h t) (t:=3) (by decide)).2 (t:=3) (by decide)).2 (t:=2) (by decide)).2
theorem sn{a:Int}{n:Nat}(h:0<=a)(h':a < n):1<=1 + a.toNat/\1 + a.toNat<=n/\a=((1 + a.toNat:Nat):Int) - 1:=by lia
theorem sh{a k n m:Int}(h:0<=a)(h':a < n)(e:k + n=m + 1):k<=k + a/\k + a<=m:=by lia
theorem s3{a:Int}(h:0<=a)(h':a < 3):a=0∨a=1∨a=2:=by lia
theorem I6(h:II s):1<=kD s/\kD s<=3/\tk (dw3 s) 3=(kD s:Int) - 1:=by
 obtain ⟨⟨a,b⟩,_⟩:=Ja (N2 h).2.2.1 (t:=3) (by decide)
 exact sn a b
theorem Ge(h:II s):1<=nD s/\nD s<=30/\tk (dw4 s) 30=(nD s:Int) - 1:=by
 obtain ⟨⟨a,b⟩,_⟩:=Ja (N2 h).2.2.2.1 (t:=30) (by decide)
 exact sn a b
theorem Xd5(h:II s):(2<=fD s/\fD s<=9)/\(2<=OG s/\OG s<=4)/\(9<=ON s/\ON s<=38):=by
 obtain ⟨⟨a,b⟩,h1⟩:=Ja h (t:=8) (by decide)
 obtain ⟨⟨c,d⟩,h2⟩:=Ja (N2 h).1 (t:=3) (by decide)
 obtain ⟨⟨e,f⟩,h3⟩:=Ja (N2 h).2.1 (t:=30) (by decide)
 exact ⟨sh a b rfl,sh c d rfl,sh e f rfl⟩
theorem IU{x le mo:Int}(h:le<=mo):le<=Yq x le mo/\Yq x le mo<=mo:=by
 unfold Yq
 by_cases h1:x < le
 ·rw[if_pos h1];exact ⟨Int.le_refl _,h⟩
 ·rw[if_neg h1]
  by_cases h2:mo < x
  ·rw[if_pos h2];exact ⟨h,Int.le_refl _⟩
  ·rw[if_neg h2];exact ⟨Int.not_lt.mp h1,Int.not_lt.mp h2⟩
theorem Xwa(h:II s):wD s=0∨wD s=1∨wD s=2:=by
 obtain ⟨⟨a,b⟩,_⟩:=Ja (N2 h).2.2.2.2.2.1 (t:=3) (by decide)
 exact s3 a b
theorem Xv2(h:II s):sD s=0∨sD s=1∨sD s=2:=by
 obtain ⟨⟨a,b⟩,_⟩:=Ja (N2 h).2.2.2.2.2.2.1 (t:=3) (by decide)
 exact s3 a b
end
theorem WJ.app{ρ:Nat->Int}:∀{a b:XA},WJ ρ a->WJ ρ b->WJ ρ (a++b):=by
 intro ux
 induction ux with
 |nil=>
  intro _ _ h
  exact h
 |cons ua _ ih=>
  obtain ⟨_,_,_⟩:=ua
  intro _ h1 h2
  exact ⟨h1.1,ih h1.2 h2⟩
def XlM(b:List (Nat×Int×Int)):List (Nat×Int)->Option (Int×Int)
 | []=>some (0,0)
 |z::r=>oc (Xh b z.1) none λp=>oc (XlM b r) none λq=>bc (decide (z.2=1)) (some (p.1 + q.1,p.2 + q.2)) (bc (decide (z.2= -1)) (some (-p.2 + q.1,-p.1 + q.2)) none)
def Mi(ρ:Nat->Int)(b:List (Nat×Int×Int)):Prop:=∀i l h,Xh b i=some (l,h)->l<=ρ i/\ρ i<=h
theorem DM{ρ:Nat->Int}:Mi ρ []:=λ_ _ _ h=>by cases h
theorem YL{ρ:Nat->Int}{b:List (Nat×Int×Int)}{i:Nat}{l h:Int}(q:l<=ρ i/\ρ i<=h)(hb:Mi ρ b):Mi ρ ((i,l,h)::b):=λj x y e=>by
 replace e:bc (Nat.beq i j) (some (l,h)) (Xh b j)=some (x,y):=e
 induction z:Nat.beq i j with
 |true=>rw[z] at e;cases e;rw[←Qi z];exact q
 |false=>rw[z] at e;exact hb j x y e
set_option tactic.hygienic true
theorem Xhu{ρ:Nat->Int}{b:List (Nat×Int×Int)}(hb:Mi ρ b):∀{t:List (Nat×Int)}{l h:Int},XlM b t=some (l,h)->l<=tv ρ t/\tv ρ t<=h:=by
 intro ux
 induction ux with
 |nil=>
  intro l h e
  cases e;exact ⟨Int.le_refl _,Int.le_refl _⟩
 |cons ua r ih=>
  obtain ⟨i,a⟩:=ua
  intro l h e
  refine Z8 e λp h1 e=>Z8 e λq h2 e=>?_
  have g1:=hb i p.1 p.2 h1
  have g2:=ih (l:=q.1) (h:=q.2) h2
  show l<=a * ρ i + tv ρ r/\a * ρ i + tv ρ r<=h
  refine GK e (λha e=>?_) λ_ e=>Wg e λha e=>?_
  ·have ha:a=1:=Qt ha
   subst ha
   obtain ⟨e1,e2⟩:=Prod.mk.inj (QV e)
   rw[←e1,←e2,Int.one_mul];exact ⟨Int.add_le_add g1.1 g2.1,Int.add_le_add g1.2 g2.2⟩
  ·have ha:a= -1:=Qt ha
   subst ha
   obtain ⟨e1,e2⟩:=Prod.mk.inj (QV e)
   rw[←e1,←e2,Int.neg_one_mul];exact ⟨Int.add_le_add (Int.neg_le_neg g1.2) g2.1,Int.add_le_add (Int.neg_le_neg g1.1) g2.2⟩
def Xnv(b:List (Nat×Int×Int)):XA->Bool
 | []=>true
 |z::r=>oc (XlM b z.1) false λp=>bc z.2.2 (decide (0<=z.2.1 + p.1)) (decide (z.2.1 + p.2 < 0))&&Xnv b r
theorem Ud{ρ:Nat->Int}{b:List (Nat×Int×Int)}(hb:Mi ρ b):∀{F:XA},Xnv b F=true->WJ ρ F:=by
 intro ux
 induction ux with
 |nil=>
  intro _
  exact trivial
 |cons ua r ih=>
  obtain ⟨t,c,v⟩:=ua
  intro e
  refine Bi e λp hq e=>b2 e λe1 e2=>?_
  have g:=Xhu hb (l:=p.1) (h:=p.2) hq
  refine ⟨?_,ih e2⟩
  induction v with
  |true=>have:=Qt (show decide (0<=c + p.1)=true from e1);exact fT (Re this (Int.add_le_add_left g.1 _))
  |false=>have:=Qt (show decide (c + p.2 < 0)=true from e1);exact fF (Int.lt_of_le_of_lt (Int.add_le_add_left g.2 _) this)
set_option tactic.hygienic false
theorem XmG{ρ:Nat->Int}(h10:2<=ρ 10/\ρ 10<=38)(h11:2<=ρ 11/\ρ 11<=38)(h12:2<=ρ 12/\ρ 12<=38)(h13:2<=ρ 13/\ρ 13<=38)(h20:0<=ρ 20/\ρ 20<=2)(h21:0<=ρ 21/\ρ 21<=2)(h22:0<=ρ 22/\ρ 22<=2)
  (h30:0<=ρ 30/\ρ 30<=2)(h31:0<=ρ 31/\ρ 31<=2)(h32:0<=ρ 32/\ρ 32<=2)(h40:0<=ρ 40/\ρ 40<=2)(h41:0<=ρ 41/\ρ 41<=2)(h42:0<=ρ 42/\ρ 42<=2):WJ ρ F0:=
 Ud (YL h10 (YL h11 (YL h12 (YL h13 (YL h20 (YL h21 (YL h22 (YL h30 (YL h31 (YL h32 (YL h40 (YL h41 (YL h42 DM))))))))))))) (by decide +kernel)
theorem NB{ρ:Nat->Int}{x:Nat}{lo hi:Int}(h:lo<=ρ x/\ρ x<=hi):WJ ρ (bnd x lo hi):=by
 simp only [bnd,WJ,tv]
 and_intros<;>first |trivial |(symm;apply Qo;lia) |(symm;apply Qn;lia)
section
variable {ρ:Nat->Int}{s:S2}
theorem RE.F0(E:RE ρ s):WJ ρ F0:=by
 refine YF (Xd5 E.ok) λa b c=>?_
 have w:∀x,2<=Yq x (OG s) (ON s)/\Yq x (OG s) (ON s)<=38:=λx=>by
  have h:=IU (x:=x) (Re b.2 (Re (by decide) c.1))
  exact ⟨Re b.1 h.1,Re h.2 c.2⟩
 have t3:∀{u:S2},II u->0<=tk u 3/\tk u 3<=2:=λh=>(Ja h (t:=3) (by decide)).1.imp id Int.le_of_lt_add_one
 have n3:∀{u:S2},II u->II (ts u 3):=λh=>(Ja h (by decide)).2
 have t2:∀{u:S2},II u->0<=tk u 2/\tk u 2<=2:=λh=>(Ja h (t:=2) (by decide)).1.imp id Int.le_of_lt
 have u:=Xfl E.ok
 exact XmG (by rw[E.r10];exact w _) (by rw[E.r11];exact w _) (by rw[E.r12];exact w _) (by rw[E.r13];exact w _) (by rw[E.r20];exact t3 (u 0)) (by rw[E.r21];exact t3 (u 1)) (by rw[E.r22];exact t3 (u 2))
  (by rw[E.r30];exact t3 (n3 (u 0))) (by rw[E.r31];exact t3 (n3 (u 1))) (by rw[E.r32];exact t3 (n3 (u 2))) (by rw[E.r40];exact t2 (n3 (n3 (u 0)))) (by rw[E.r41];exact t2 (n3 (n3 (u 1)))) (by rw[E.r42];exact t2 (n3 (n3 (u 2))))
theorem RE.bnd(E:RE ρ s):BM ρ tb0:=by
 refine YF (Xd5 E.ok) λa b c=>?_
 have v:∀i,(L1 i).val ρ=ρ i:=λi=>by show 0 + (1 * ρ i + 0)=_;lia
 have idem:Yq (Yq (fD s) (OG s) (ON s)) (OG s) (ON s)=Yq (fD s) (OG s) (ON s):=by
  have h:=IU (x:=fD s) (Re b.2 (Re (by decide) c.1))
  generalize Yq (fD s) (OG s) (ON s)=y at h ⊢
  unfold Yq;rw[if_neg (Int.not_lt.mpr h.1),if_neg (Int.not_lt.mpr h.2)]
 have d2:∀k:Int,LI.val ρ ⟨0,[(10,k)]⟩=k * ρ 10:=λk=>by show 0 + (k * ρ 10 + 0)=_;lia
 intro x le mo r hm
 refine mE4 hm (by rw[v,v,v,v,E.r0,E.r1,E.r2,E.r10]) λhm=>mE4 hm (by rw[v,v,v,E.r1,E.r2,E.r10,idem]) λhm=>mE4 hm (by rw[v,v,v,E.r1,E.r2,E.r11,d2,E.r10];rfl) λhm=>mE4 hm (by rw[v,v,v,E.r1,E.r2,E.r12,d2,E.r10];rfl) λhm=>mE4 hm (by rw[v,v,v,E.r1,E.r2,E.r13,d2,E.r10];rfl) λhm=>?_
 cases hm
theorem US{x le mo:Int}(h:le<=mo):OM (Kt x le) mo=Yq x le mo:=by
 unfold OM Kt Yq
 repeat' split
 all_goals lia
theorem RE.wait(E:RE ρ s):DF ρ tw0:=by
 refine YF (Xd5 E.ok) λa b c=>?_
 have v:∀i,(L1 i).val ρ=ρ i:=λi=>by show 0 + (1 * ρ i + 0)=_;lia
 have hle:OG s<=ON s:=Re b.2 (Re (by decide) c.1)
 have idem:Yq (Yq (fD s) (OG s) (ON s)) (OG s) (ON s)=Yq (fD s) (OG s) (ON s):=by
  have h:=IU (x:=fD s) (le:=OG s) (mo:=ON s) hle
  generalize Yq (fD s) (OG s) (ON s)=y at h ⊢
  unfold Yq;rw[if_neg (Int.not_lt.mpr h.1),if_neg (Int.not_lt.mpr h.2)]
 have p0:∀y:Int,y * 2 ^ 0=y:=Int.mul_one
 have pw:∀(y:Int)(n:Nat),y * 2 ^ n=2 ^ n * y:=λy n=>Int.mul_comm _ _
 intro x le mo n r hm
 refine mE5 hm ⟨by decide,rfl,rfl,rfl,?_⟩ λhm=>mE5 hm ⟨by decide,rfl,rfl,rfl,?_⟩ λhm=>mE5 hm ⟨by decide,rfl,rfl,rfl,?_⟩ λhm=>mE5 hm ⟨by decide,rfl,rfl,rfl,?_⟩ λhm=>?_
 ·rw[v,v,v,v,E.r0,E.r1,E.r2,E.r10]
  unfold Dw
  rw[US hle,US hle,p0,idem]
 ·rw[v,v,v,v,E.r0,E.r1,E.r2,E.r11]
  unfold Dw wA
  rw[US hle,US hle,pw];rfl
 ·rw[v,v,v,v,E.r0,E.r1,E.r2,E.r12]
  unfold Dw wA
  rw[US hle,US hle,pw];rfl
 ·rw[v,v,v,v,E.r0,E.r1,E.r2,E.r13]
  unfold Dw wA
  rw[US hle,US hle,pw];rfl
 cases hm
theorem I7{C:Cx}{P:Rj}(O:C.Ok)(Rx:C.cells=[])(Ry:C.cellv=[])(hK:C.K=KF P)(E:RE C.ρ s){F:XA}{G:Oz}{tc:TO}(hF:WJ C.ρ F)(hG:XS C.ρ G)(hO:IQ C.ρ tc):KOK C 62 (kG F G tc):=
 ⟨hF.ok,hG,Um (X:=XG F G tc) (m:=2) Rx O rfl rfl hF.ok hG (Nu O Ry hK) (Xak O Rx Ry hK hF.ok E.bnd E.wait (XdA C P O Rx Ry hK) hO) 60,rfl,rfl⟩
theorem KOK.le{C:Cx}{n m:Nat}{k:K}(h:KOK C n k)(q:n<=m):KOK C m k:=⟨h.F,h.G,h.cal.le q,h.cls,h.wh⟩
end
theorem NT{a r:Int}(hr:r=a / 2):Xcf 3 a 2 r:=by
 intro prog w A s op t u Q E ho h
 have:op= .FloorDiv:=by cases op<;>first |rfl |cases ho
 subst this
 refine PyProof.Rows.floordiv_int (by lia) ?_ (Or.inl (PyProof.noPylong_small (by lia)))
 rw[Int.fdiv_eq_ediv_of_nonneg _ (by decide),←hr]
 exact h _ _
noncomputable def Xp7(n:Nat)(c:Bool)(cl:Nat):Bool:=Nat.ble 4 (MM n c cl)&&(Nat.ble (MM n c cl) 31&&(Nat.beq (nxA n c cl) ((251 + MM n c cl) % 256)&&
 ((Nat.beq (hcF n c cl) 0&&Nat.ble (MM n c cl) 15)||((Nat.beq (hcF n c cl) 1&&(Nat.ble 16 (MM n c cl)&&Nat.ble (MM n c cl) 17))||(Nat.beq (hcF n c cl) 2&&Nat.ble 18 (MM n c cl))))))
theorem XhC:((List.range 31).all λn=>Nat.beq n 0||(ccl n).all λx=>Xp7 n x.1 x.2)=true:=by decide +kernel
theorem ID{n cl:Nat}{c:Bool}(h:cl∈GW n):(c,cl)∈ccl n:=by
 unfold ccl
 refine List.mem_flatMap.mpr ⟨c,?_,QC h⟩
 induction c<;>decide
theorem Xmr{n cl:Nat}{c:Bool}(h1:1<=n)(h2:n<=30)(h:cl∈GW n):(4<=MM n c cl/\MM n c cl<=31)/\nxA n c cl=(251 + MM n c cl) % 256/\
  ((hcF n c cl=0/\MM n c cl<=15)∨(hcF n c cl=1/\16<=MM n c cl/\MM n c cl<=17)∨(hcF n c cl=2/\18<=MM n c cl)):=by
 have:=Qf XhC n (List.mem_range.mpr (by lia))
 rcases Bool.or_eq_true_iff.mp this with h0 |h0
 ·exact absurd (Qi h0) (Nat.ne_of_gt h1)
 have:=Qf h0 _ (ID (c:=c) h)
 replace this:Xp7 n c cl=true:=this
 refine b4 this λa b e d=>⟨⟨Qv a,Qv b⟩,Qi e,?_⟩
 exact (Bool.or_eq_true_iff.mp d).elim (λd=> .inl (b2 d λx y=>⟨Qi x,Qv y⟩)) λd=> .inr ((Bool.or_eq_true_iff.mp d).elim
  (λd=> .inl (b3 d λx y z=>⟨Qi x,Qv y,Qv z⟩)) λd=> .inr (b2 d λx y=>⟨Qi x,Qv y⟩))
section
variable {ρ:Nat->Int}{s:S2}
theorem DR(E:RE ρ s):Ov s∈GW (nD s):=by
 unfold Ov GW
 by_cases h7:nD s<=7
 ·rw[if_pos h7,QD h7]
  show _∈[6,7]
  split<;>decide
 ·have b7:Nat.ble (nD s) 7=false:=by
   induction q:Nat.ble (nD s) 7 with
   |false=>rfl
   |true=>exact absurd (Qv q) h7
  rw[if_neg h7,b7]
  by_cases h15:nD s<=15
  ·rw[if_pos h15,QD h15]
   show _∈[0,1,2,5]
   split
   ·decide
   ·split
    ·decide
    ·split<;>decide
  ·have b15:Nat.ble (nD s) 15=false:=by
    induction q:Nat.ble (nD s) 15 with
    |false=>rfl
    |true=>exact absurd (Qv q) h15
   rw[if_neg h15,b15]
   show _∈[0,1,2,3,4]
   split
   ·decide
   ·split
    ·decide
    ·split
     ·decide
     ·split<;>decide
theorem XmE(E:RE ρ s):(wD s=0/\ρ 50=8/\wV s=8)∨(wD s=1/\ρ 50=12/\wV s=12)∨(wD s=2/\ρ 50=40/\wV s=40):=by
 have e:=E.r50
 unfold wV at e ⊢
 rcases Xwa E.ok with h |h |h<;>rw[h] at e ⊢<;>simp_all
theorem Xp6(E:RE ρ s):(sD s=0/\ρ 51=8/\sV s=8)∨(sD s=1/\ρ 51=16/\sV s=16)∨(sD s=2/\ρ 51=31/\sV s=31):=by
 have e:=E.r51
 unfold sV at e ⊢
 rcases Xv2 E.ok with h |h |h<;>rw[h] at e ⊢<;>simp_all
theorem YT:Zi ρ []:=λ_ _ h=>by cases h
theorem Yw{g:JQ}{i:Nat}{c:Int}(h:ρ i=c)(hg:Zi ρ g):Zi ρ ((i,c)::g):=λj d q=>by
 replace q:bc (Nat.beq i j) (some c) (Xh g j)=some d:=q
 induction e:Nat.beq i j with
 |true=>rw[e] at q;obtain rfl:=QV q;rw[←Qi e];exact h
 |false=>rw[e] at q;exact hg j d q
theorem v1{i:Nat}:(L1 i).val ρ=ρ i:=by show 0 + (1 * ρ i + 0)=_;lia
theorem XjJ{w x a b c:Int}{p q r:Prop}(h:(w=0/\x=a/\p)∨(w=1/\x=b/\q)∨(w=2/\x=c/\r)):(w=0->x=a)/\(w=1->x=b)/\(w≠0->w≠1->x=c):=by
 rcases h with ⟨rfl,h,_⟩ |⟨rfl,h,_⟩ |⟨rfl,h,_⟩
 ·exact ⟨λ_=>h,λe=>absurd e (by decide),λe=>absurd rfl e⟩
 ·exact ⟨λe=>absurd e (by decide),λ_=>h,λ_ e=>absurd rfl e⟩
 ·exact ⟨λe=>absurd e (by decide),λe=>absurd e (by decide),λ_ _=>h⟩
theorem NG(E:RE ρ s):WJ ρ (WI (Ov s)).f/\Zi ρ (D1 (Ov s))/\(WI (Ov s)).s.val ρ=ρ 51/\Ov s<=7:=by
 have hw:=XmE E
 have hs:=Xp6 E
 have bw:8<=ρ 50/\ρ 50<=40:=by rcases hw with ⟨_,h,_⟩ |⟨_,h,_⟩ |⟨_,h,_⟩<;>rw[h]<;>decide
 have bs:8<=ρ 51/\ρ 51<=31:=by rcases hs with ⟨_,h,_⟩ |⟨_,h,_⟩ |⟨_,h,_⟩<;>rw[h]<;>decide
 refine YF (XjJ hw) λw0 w1 w2=>YF (XjJ hs) λs0 s1 s2=>?_
 clear hw hs
 have B:Mi ρ [(50,8,40),(51,8,31)]:=YL bw (YL bs DM)
 have sw:tv ρ [(50,-1),(51,1)]=ρ 51 - ρ 50:=by show -1 * ρ 50 + (1 * ρ 51 + 0)=_;lia
 have ws':tv ρ [(50,1),(51,-1)]=ρ 50 - ρ 51:=by show 1 * ρ 50 + (-1 * ρ 51 + 0)=_;lia
 unfold Ov
 by_cases c1:nD s<=7
 ·rw[if_pos c1]
  by_cases c2:wV s<=sV s
  ·rw[if_pos c2]
   rw[←E.r50,←E.r51] at c2
   refine YF (Ud B (F:=[([(50,1)],-8,true),([(50,-1)],7,false)]) (by decide +kernel)) λg1 g2 _=>?_
   exact ⟨⟨g1,g2,fT (by rw[sw];lia),fF (by rw[ws'];lia),trivial⟩,YT,v1,by decide⟩
  ·rw[if_neg c2]
   rw[←E.r50,←E.r51] at c2
   refine YF (Ud B (F:=[([(51,1)],-8,true),([(51,-1)],7,false)]) (by decide +kernel)) λg1 g2 _=>?_
   exact ⟨⟨g1,g2,fF (by rw[sw];lia),fT (by rw[ws'];lia),trivial⟩,YT,v1,by decide⟩
 rw[if_neg c1]
 by_cases c2:wD s=0
 ·rw[if_pos c2];exact ⟨Ud B (by decide +kernel),Yw (w0 c2) YT,v1,by decide⟩
 rw[if_neg c2]
 have b12:12<=ρ 50/\ρ 50<=40:=by
  by_cases c3:wD s=1
  ·rw[w1 c3];decide
  ·rw[w2 c2 c3];decide
 by_cases c3:sD s=0
 ·rw[if_pos c3];exact ⟨Ud (YL b12 DM) (by decide +kernel),Yw (s0 c3) YT,by rw[s0 c3];rfl,by decide⟩
 rw[if_neg c3]
 have B2:Mi ρ [(51,16,31)]:=YL (by
  by_cases c4:sD s=1
  ·rw[s1 c4];decide
  ·rw[s2 c3 c4];decide) DM
 by_cases c4:wD s=1
 ·rw[if_pos c4];exact ⟨Ud B2 (by decide +kernel),Yw (w1 c4) YT,v1,by decide⟩
 rw[if_neg c4]
 have w40:=w2 c2 c4
 by_cases c5:nD s<=15
 ·rw[if_pos c5];exact ⟨Ud B2 (by decide +kernel),Yw w40 YT,v1,by decide⟩
 rw[if_neg c5]
 by_cases c6:sD s=1
 ·rw[if_pos c6];exact ⟨trivial,Yw w40 (Yw (s1 c6) YT),by rw[s1 c6];rfl,by decide⟩
 ·rw[if_neg c6];exact ⟨trivial,Yw w40 (Yw (s2 c3 c6) YT),by rw[s2 c3 c6];rfl,by decide⟩
theorem XvD(E:RE ρ s){r:LI}(hr:r.val ρ=ρ 51):IQ ρ [([8,16,31],L1 81,r)]:=by
 intro ks d r' hm n x hd hx
 rcases Qe hm with e |hm
 ·cases e
  rw[v1,E.r81] at hd
  rw[hr]
  rcases Xp6 E with ⟨h,h',_⟩ |⟨h,h',_⟩ |⟨h,h',_⟩
  ·obtain rfl:n=0:=by lia
   obtain rfl:=QV hx;exact h'
  ·obtain rfl:n=1:=by lia
   obtain rfl:=QV hx;exact h'
  ·obtain rfl:n=2:=by lia
   obtain rfl:=QV hx;exact h'
 ·cases hm
theorem Xpg(E:RE ρ s):IQ ρ [([8,12,40],L1 80,L1 50)]:=by
 intro ks d r' hm n x hd hx
 rcases Qe hm with e |hm
 ·cases e
  rw[v1,E.r80] at hd
  rw[v1]
  rcases XmE E with ⟨h,h',_⟩ |⟨h,h',_⟩ |⟨h,h',_⟩
  ·obtain rfl:n=0:=by lia
   obtain rfl:=QV hx;exact h'
  ·obtain rfl:n=1:=by lia
   obtain rfl:=QV hx;exact h'
  ·obtain rfl:n=2:=by lia
   obtain rfl:=QV hx;exact h'
 ·cases hm
theorem Xg6:IQ ρ []:=λ_ _ _ h=>by cases h
theorem RE.tab(E:RE ρ s):(4<=flD s/\flD s<=31)/\nxD s=(251 + flD s) % 256/\((hcD s=0/\flD s<=15)∨(hcD s=1/\16<=flD s/\flD s<=17)∨(hcD s=2/\18<=flD s)):=
 Xmr (Ge E.ok).1 (Ge E.ok).2.1 (DR E)
theorem Xlg(E:RE ρ s){hc:Nat}(h:hc=hcD s∨hc=3):XS ρ (gT hc):=by
 refine YF E.tab λzz1 t3 t4=>?_;obtain ⟨t1,t2⟩:=zz1
 have c256:(⟨256,[]⟩:LI).val ρ=256:=rfl
 have c2:(⟨2,[]⟩:LI).val ρ=2:=rfl
 have c90:(⟨-251,[(90,1)]⟩:LI).val ρ=ρ 90 - 251:=by show -251 + (1 * ρ 90 + 0)=_;lia
 have c94:(⟨-251,[(94,1)]⟩:LI).val ρ=ρ 94 - 251:=by show -251 + (1 * ρ 94 + 0)=_;lia
 intro o x y z hm
 refine mE4 hm (by rw[c90,c256,v1,E.r91,E.r90];exact Nh (by decide) (by lia)) λhm=>mE4 hm (by rw[c94,c256,v1,E.r95,E.r94];exact Nh (by decide) (by lia)) λhm=>?_
 rcases h with h0 |h0
 ·rcases t4 with ⟨h,h'⟩ |⟨h,h'⟩ |⟨h,h'⟩
  ·rw[h0,h] at hm
   refine mE4 hm (by rw[c2,v1,v1,E.r91,E.r93];exact NT rfl) λhm=>?_
   cases hm
  ·rw[h0,h] at hm
   refine mE4 hm (by rw[c2,v1,E.r91];exact NT (by show (8:Int) + 0=_;lia)) λhm=>?_
   cases hm
  ·rw[h0,h] at hm
   refine mE4 hm (by rw[c2,v1,v1,E.r91,E.r96,if_pos h];exact NT rfl) λhm=>?_
   cases hm
 ·rw[h0] at hm;cases hm
theorem Xdf(E:RE ρ s){hc t:Nat}(h:hc=hcD s∨hc=3)(ht:t < kD s):WJ ρ (Xac hc t):=by
 refine YF E.tab λzz2 t3 t4=>?_;obtain ⟨t1,t2⟩:=zz2
 refine ⟨fT ?_,WJ.app (NB ⟨by rw[E.r91];lia,by rw[E.r91];lia⟩) (WJ.app (NB ⟨by rw[E.r95];lia,by rw[E.r95];lia⟩) (WJ.app ?_ E.F0))⟩
 ·show (0:Int)<= -(Int.ofNat (t + 1)) + (1 * ρ 92 + 0)
  rw[E.r92]
  show (0:Int)<= -((t + 1:Nat):Int) + _
  lia
 ·rcases h with rfl |rfl
  ·rcases t4 with ⟨h,h'⟩ |⟨h,h'⟩ |⟨h,h'⟩
   ·rw[h]
    exact NB ⟨by rw[E.r93];unfold hlD;lia,by rw[E.r93];unfold hlD;lia⟩
   ·rw[h];trivial
   ·rw[h]
    exact NB ⟨by rw[E.r96,if_pos h];unfold hlD;lia,by rw[E.r96,if_pos h];unfold hlD;lia⟩
  ·trivial
theorem XkC(E:RE ρ s):WJ ρ (Xgs (kD s)):=by
 refine YF E.tab λzz3 t3 t4=>?_;obtain ⟨t1,t2⟩:=zz3
 refine ⟨fF ?_,WJ.app (NB ⟨by rw[E.r91];lia,by rw[E.r91];lia⟩) (WJ.app (NB ⟨by rw[E.r95];lia,by rw[E.r95];lia⟩) E.F0)⟩
 show -(Int.ofNat (kD s + 1)) + (1 * ρ 92 + 0) < (0:Int)
 rw[E.r92]
 show -((kD s + 1:Nat):Int) + _ < (0:Int)
 lia
theorem XrJ(E:RE ρ s):Zi ρ (aT (hcD s)):=by
 refine YF E.tab λ_ _ t4=>?_
 rcases t4 with ⟨h,h'⟩ |⟨h,h'⟩ |⟨h,h'⟩
 ·rw[h];exact Yw (by rw[E.r96,if_neg (by lia)]) YT
 ·rw[h];exact Yw (by rw[E.r96,if_neg (by lia)]) YT
 ·rw[h];exact YT
theorem Xdd(E:RE ρ s):WJ ρ fHd:=by
 have hw:=XmE E
 refine ⟨fT ?_,fF ?_,E.F0⟩
 ·show (0:Int)<= -8 + (1 * ρ 50 + 0);lia
 ·show 7 + (-1 * ρ 50 + 0) < (0:Int);lia
theorem Xde(E:RE ρ s):WJ ρ fN:=by
 obtain ⟨h1,_⟩:=I6 E.ok
 refine ⟨fT ?_,fF ?_,E.F0⟩
 ·show (0:Int)<= -1 + (1 * ρ 92 + 0);rw[E.r92];lia
 ·show 0 + (-1 * ρ 92 + 0) < (0:Int);rw[E.r92];lia
end
theorem NU{n:Nat}{rest:List (Int×LI)}(h1:1<=n)(h2:n<=30):(∀x∈ccl n,Xlo n x.1 x.2 rest=some rest)/\(∀x∈tl0 n,Ie 0 n x.1 x.2.1 x.2.2 rest=some rest)/\(∀x∈tl1 n,Ie 1 n x.1 x.2 3 rest=some rest)/\(∀x∈tl1 n,Ie 2 n x.1 x.2 3 rest=some rest)/\
  (∀x∈tl1 n,MK 1 n x.1 x.2 rest=some rest)/\(∀x∈tl1 n,MK 2 n x.1 x.2 rest=some rest)/\(∀x∈tl1 n,MK 3 n x.1 x.2 rest=some rest)/\(∀k∈ks3,GU [(92,k)] (zK k) (rN (.fn 1325) [.ref 2,.bytes (bOf n)] (Jb 3 z3L rest))=some rest):=by
 obtain ⟨m,e⟩:=Xhv rest n h1 h2
 have all:∀y∈XQ n rest,y=some rest:=λy hy=>List.eq_of_mem_replicate (e▸hy)
 unfold XQ at all
 refine ⟨λx hx=>all _ ?_,λx hx=>all _ ?_,λx hx=>all _ ?_,λx hx=>all _ ?_,λx hx=>all _ ?_,λx hx=>all _ ?_,λx hx=>all _ ?_,λx hx=>all _ ?_⟩
 ·exact QK _ (QC (f:=λx:Bool×Nat=>Xlo n x.1 x.2 rest) hx)
 ·exact Qk _ (QK _ (QC (f:=λx:Bool×Bool×Nat=>Ie 0 n x.1 x.2.1 x.2.2 rest) hx))
 ·exact Qk _ (Qk _ (QK _ (QC (f:=λx:Bool×Bool=>Ie 1 n x.1 x.2 3 rest) hx)))
 ·exact Qk _ (Qk _ (Qk _ (QK _ (QC (f:=λx:Bool×Bool=>Ie 2 n x.1 x.2 3 rest) hx))))
 ·exact Qk _ (Qk _ (Qk _ (Qk _ (QK _ (QC (f:=λx:Bool×Bool=>MK 1 n x.1 x.2 rest) hx)))))
 ·exact Qk _ (Qk _ (Qk _ (Qk _ (Qk _ (QK _ (QC (f:=λx:Bool×Bool=>MK 2 n x.1 x.2 rest) hx))))))
 ·exact Qk _ (Qk _ (Qk _ (Qk _ (Qk _ (Qk _ (QK _ (QC (f:=λx:Bool×Bool=>MK 3 n x.1 x.2 rest) hx)))))))
 ·exact Qk _ (Qk _ (Qk _ (Qk _ (Qk _ (Qk _ (Qk _ (QC (f:=λk:Int=>GU [(92,k)] (zK k) (rN (.fn 1325) [.ref 2,.bytes (bOf n)] (Jb 3 z3L rest))) hx)))))))
theorem B8{g:JQ}{z:List (Nat×O)}{x:Xu}{src:List (Int×LI)}(e:GU g z x=some src):∃σ,x= .ok (.bool true) σ/\Ue g 3 z [] [] σ=some src:=by
 induction x with
 |no=>injection e
 |ok v σ=>
  obtain ⟨e1,e2⟩:=YR (show bc (isT v) (Ue g 3 z [] [] σ) none=some src from e) nofun
  exact bKE e1 Ri λb e3 e1=>⟨σ,by rw[e3,show b=true from e1],e2⟩
set_option tactic.hygienic true in
theorem Xaj{b:List Nat}{c:Bool}{rest:List (Int×LI)}{cl:Nat}(h:cl<=7):sHd b c rest= .ok (.ref 7) (XlJ (sHd b c rest))/\Ue (D1 cl) 23 (Ou (WI cl).w) [] [] (XlJ (sHd b c rest))=some rest:=by
 have all:∀y∈BP b c rest,y=some rest:=λy hy=>List.eq_of_mem_replicate ((XdP rest b c)▸hy)
 have hm:cl∈[0,1,2,3,4,5,6,7]:=by
  have:cl∈List.range 8:=List.mem_range.mpr (by lia)
  exact this
 have e:=all _ (QC (f:=λcl=>Xnw (D1 cl) (Ou (WI cl).w) (sHd b c rest)) hm)
 generalize sHd b c rest=x at e ⊢
 induction x with
 |no=>injection e
 |ok v σ=>
  obtain ⟨e1,e2⟩:=YR (show bc (Xn5 v) (Ue (D1 cl) 23 (Ou (WI cl).w) [] [] σ) none=some rest from e) nofun
  exact rKE e1 Ri λi e3 e1=>⟨by rw[e3,Qi e1];rfl,e2⟩
def Uq:Nat->Nat->List (Int×LI)
 |_,0=>ZY
 |t,r + 1=>XhB t (Uq (t + 1) r)
def zpD(s:S2):ZP:=Gx (nD s) (cD s) (fsF (nD s) (cD s) (Ov s))
theorem XcP(src:List (Int×LI)):∀k:Nat,1<=k->k<=3->Ue [(92,(k:Int))] 3 z3L [] [] (JG src (k:Int))=some src
 | 0,h,_=>by lia
 | 1,_,_=>by kernel_rfl
 | 2,_,_=>by kernel_rfl
 | 3,_,_=>by kernel_rfl
 |k + 4,_,h=>by lia
theorem XnL(p:ZP)(src:List (Int×LI))(F:XA)(G:Oz)(tc:TO):Xke (kG F G tc) (lzO p 0) (Jb 23 (zzO p 0) src)= .ok (.int (L1 92)) (Jb 23 (zzO p 0) src):=by kernel_rfl
noncomputable def ZE(k:Nat):List (Int×LI):=(3,L1 80)::(3,L1 81)::Uq 0 k
def kTD(s:S2):Nat->K
 | 0=>kG (Xac (hcD s) 0) (gT (hcD s)) []
 |t + 1=>kG (Xac 3 (t + 1)) (gT 3) []
def gTD(s:S2):Nat->JQ
 | 0=>aT (hcD s)
 |_=>[]
section
variable {C:Cx}{P:Rj}{s:S2}
theorem Nb(E:RE C.ρ s):(cD s,fsF (nD s) (cD s) (Ov s))∈tl1 (nD s):=Xc2 (QC (f:=λx:Bool×Nat=>(x.1,fsF (nD s) x.1 x.2)) (ID (DR E)))
theorem XgZ(E:RE C.ρ s):(cD s,fsF (nD s) (cD s) (Ov s),hcD s)∈tl0 (nD s):=Xc2 (QC (f:=λx:Bool×Nat=>(x.1,fsF (nD s) x.1 x.2,hcF (nD s) x.1 x.2)) (ID (DR E)))
theorem Xfh(E:RE C.ρ s):∀t,t < kD s->GT (gTD s t) 23 (zzO (zpD s) (t + 1)) (lzO (zpD s) (t + 1)) (XaJ (kTD s t) (XM (lzO (zpD s) t) 39 (.int ⟨(t:Int),[]⟩)) (Jb 23 (zzO (zpD s) t) (Uq t (kD s - t))))=some (Uq (t + 1) (kD s - (t + 1))):=by
 refine YF (Ge E.ok) λn1 n2 _=>?_
 refine YF (I6 E.ok) λk1 k2 _=>?_
 intro t ht
 have e:Uq t (kD s - t)=XhB t (Uq (t + 1) (kD s - (t + 1))):=by
  rw[show kD s - t=(kD s - (t + 1)) + 1 by lia];rfl
 rw[e]
 refine n3L (n:=t) (QY ht k2) ?_ ?_ ?_
 ·have h:=(NU (rest:=Uq 1 (kD s - 1)) n1 n2).2.1 _ (XgZ E);exact h
 ·have h:=(NU (rest:=Uq 2 (kD s - 2)) n1 n2).2.2.1 _ (Nb E);exact h
 ·have h:=(NU (rest:=Uq 3 (kD s - 3)) n1 n2).2.2.2.1 _ (Nb E);exact h
theorem Xgu(E:RE C.ρ s):Xgc [(92,(kD s:Int))] 3 [(1,Zy (kD s:Int)),(2,.inst 863 1)] (Xgt (kG (Xgs (kD s)) (gT 3) []) (lzO (zpD s) (kD s)) (Jb 23 (zzO (zpD s) (kD s)) (Uq (kD s) (kD s - kD s))))=some ZY:=by
 refine YF (Ge E.ok) λn1 n2 _=>?_
 refine YF (I6 E.ok) λk1 k2 _=>?_
 have e:Uq (kD s) (kD s - kD s)=ZY:=by rw[Nat.sub_self];rfl
 rw[e]
 refine x08 (NU (rest:=ZY) n1 n2) λp1 p2 p3 p4 p5 p6 p7 p8=>?_
 have h5:=p5 _ (Nb E)
 have h6:=p6 _ (Nb E)
 have h7:=p7 _ (Nb E)
 clear p1 p2 p3 p4 p5 p6 p7 p8 e
 generalize kD s=k at k1 k2 ⊢
 exact n3E (n:=k) k1 k2 h5 h6 h7
theorem Xhd(E:RE C.ρ s):GT ((90,Int.ofNat (nxD s))::(94,Int.ofNat (nxD s))::D1 (Ov s)) 23 (zzO (zpD s) 0) (lzO (zpD s) 0) (Xaz (kG ((WI (Ov s)).f++F0) [] [([8,16,31],L1 81,(WI (Ov s)).s)]) (lT1 (bOf (nD s)) (cD s)) (Jb 23 (Ou (WI (Ov s)).w) ((3,L1 81)::Uq 0 (kD s))))=some (Uq 0 (kD s)):=by
 have h:=(NU (rest:=Uq 0 (kD s)) (Ge E.ok).1 (Ge E.ok).2.1).1 _ (ID (c:=cD s) (DR E))
 exact h
def Xv3(O:C.Ok)(Rx:C.cells=[])(Ry:C.cellv=[])(hK:C.K=KF P)(E:RE C.ρ s):Xkb C 64 (bOf (nD s)) (cD s) (kD s) (ZE (kD s)) ZY where
 g0:=[(92,(kD s:Int))]
 gH:=D1 (Ov s)
 gP:=(90,Int.ofNat (nxD s))::(94,Int.ofNat (nxD s))::D1 (Ov s)
 gT:=gTD s
 gF:=[(92,(kD s:Int))]
 kH:=kHd
 kP:=kG ((WI (Ov s)).f++F0) [] [([8,16,31],L1 81,(WI (Ov s)).s)]
 kR:=kHd
 kF:=kG (Xgs (kD s)) (gT 3) []
 kT:=kTD s
 z3:=z3L
 zh:=Ou (WI (Ov s)).w
 zz:=zzO (zpD s)
 lz:=lzO (zpD s)
 srcB:=(3,L1 81)::Uq 0 (kD s)
 src:=λt=>Uq t (kD s - t)
 σ1:=XlJ (sHd (bOf (nD s)) (cD s) ((3,L1 81)::Uq 0 (kD s)))
 w:=L1 92
 hg0:=Yw E.r92 YT
 hgH:=(NG E).2.1
 hgP:=Yw E.r90 (Yw E.r94 (NG E).2.1)
 hgT:=λt=>by
  induction t with
  |zero=>exact XrJ E
  |succ t=>exact YT
 hgF:=Yw E.r92 YT
 KH:=(I7 O Rx Ry hK E (Xdd E) YU (Xpg E)).le (by decide)
 KP:=(I7 O Rx Ry hK E (WJ.app (NG E).1 E.F0) YU (XvD E (NG E).2.2.1)).le (by decide)
 KR:=(I7 O Rx Ry hK E (Xdd E) YU (Xpg E)).le (by decide)
 KF':=(I7 O Rx Ry hK E (XkC E) (Xlg E (.inr rfl)) Xg6).le (by decide)
 KT:=λt ht=>by
  induction t with
  |zero=>exact (I7 O Rx Ry hK E (Xdf E (.inl rfl) ht) (Xlg E (.inl rfl)) Xg6).le (by decide)
  |succ t=>exact (I7 O Rx Ry hK E (Xdf E (.inr rfl) ht) (Xlg E (.inr rfl)) Xg6).le (by decide)
 c0:=XcP _ _ (I6 E.ok).1 (I6 E.ok).2.1
 eH:=(Xaj (NG E).2.2.2).1
 cH:=(Xaj (NG E).2.2.2).2
 eP:=Xhd E
 eR:=XnL _ _ _ _ _
 hw:=by rw[v1];exact E.r92
 eT:=Xfh E
 eF:=Xgu E
end
def XkU(t:XaR):K:=⟨fN,[],Xr.get,842,Xh0 t rN⟩
def Xjt:K:=⟨fN,[],Xr.get,842,rN⟩
theorem Xb6{b:List Nat}{src:List (Int×LI)}{k:Int}{σ':St}:∀c:Bool,Gu (XkU ⟨1318,[.ref 0,.ref 2,.bytes b,.bool c],JG src k,.bool true,σ'⟩) (NO b) (JG ((2,⟨bif c then 0 else 1,[]⟩)::src) k)=
  Nt ⟨1318,[.ref 0,.ref 2,.bytes b,.bool c],JG src k,.bool true,σ'⟩ [.ref 0,.ref 2,.bytes b,.bool c] (JG src k)
 |true=>by kernel_rfl
 |false=>by kernel_rfl
theorem Xej{b:List Nat}{src:List (Int×LI)}{k:Int}{σ':St}:Bf (XkU ⟨1325,[.ref 2,.bytes b],JG src k,.bool true,σ'⟩) (NO b) (JG src k)=Nt ⟨1325,[.ref 2,.bytes b],JG src k,.bool true,σ'⟩ [.ref 2,.bytes b] (JG src k):=by kernel_rfl
theorem Xmg{w:LI}{k:Int}{σ':St}:∀d:Nat,d<=6->s7M (XkU ⟨1330,[.ref 0,.ref 2,.bytes (bPr d)],JG [(3,w)] k,.bool true,σ'⟩) Il (JG [(7,⟨(d:Int),[]⟩),(3,w)] k)=
  (Nt ⟨1330,[.ref 0,.ref 2,.bytes (bPr d)],JG [(3,w)] k,.bool true,σ'⟩ [.ref 0,.ref 2,.bytes (bPr d)] (JG [(3,w)] k)).to .no λv s=> .ret v s
 | 0,_=>by kernel_rfl
 | 1,_=>by kernel_rfl
 | 2,_=>by kernel_rfl
 | 3,_=>by kernel_rfl
 | 4,_=>by kernel_rfl
 | 5,_=>by kernel_rfl
 | 6,_=>by kernel_rfl
 |d + 7,h=>by lia
theorem Xme{src:List (Int×LI)}:∀k:Nat,1<=k->k<=3->s4M Xjt [(171,.ref 0)] (st1 ((8,⟨-2,[(0,1)]⟩)::(3,⟨-2,[(1,1)]⟩)::(30,⟨-9,[(2,1)]⟩)::(3,⟨(k:Int) - 1,[]⟩)::src))= .next Il (JG src (k:Int))
 | 0,h,_=>by lia
 | 1,_,_=>by kernel_rfl
 | 2,_,_=>by kernel_rfl
 | 3,_,_=>by kernel_rfl
 |k + 4,_,h=>by lia
theorem Xmf{src:List (Int×LI)}{k:Int}:∀n:Nat,1<=n->n<=30->s5M Xjt Il (JG ((30,⟨(n:Int) - 1,[]⟩)::src) k)= .next (NO (bOf n)) (JG src k)
 | 0,h,_=>by lia
 | 1,_,_=>by kernel_rfl
 | 2,_,_=>by kernel_rfl
 | 3,_,_=>by kernel_rfl
 | 4,_,_=>by kernel_rfl
 | 5,_,_=>by kernel_rfl
 | 6,_,_=>by kernel_rfl
 | 7,_,_=>by kernel_rfl
 | 8,_,_=>by kernel_rfl
 | 9,_,_=>by kernel_rfl
 | 10,_,_=>by kernel_rfl
 | 11,_,_=>by kernel_rfl
 | 12,_,_=>by kernel_rfl
 | 13,_,_=>by kernel_rfl
 | 14,_,_=>by kernel_rfl
 | 15,_,_=>by kernel_rfl
 | 16,_,_=>by kernel_rfl
 | 17,_,_=>by kernel_rfl
 | 18,_,_=>by kernel_rfl
 | 19,_,_=>by kernel_rfl
 | 20,_,_=>by kernel_rfl
 | 21,_,_=>by kernel_rfl
 | 22,_,_=>by kernel_rfl
 | 23,_,_=>by kernel_rfl
 | 24,_,_=>by kernel_rfl
 | 25,_,_=>by kernel_rfl
 | 26,_,_=>by kernel_rfl
 | 27,_,_=>by kernel_rfl
 | 28,_,_=>by kernel_rfl
 | 29,_,_=>by kernel_rfl
 | 30,_,_=>by kernel_rfl
 |n + 31,_,h=>by lia
theorem Xqi{k:Int}{src:List (Int×LI)}:(Jb 3 [(1,Zy k),(2,.inst 863 1)] src).h.get 0=some (.src src)/\(Jb 3 [(1,Zy k),(2,.inst 863 1)] src).h.get 1=some (Zy k)/\(Jb 3 [(1,Zy k),(2,.inst 863 1)] src).h.get 2=some (.inst 863 1):=⟨by kernel_rfl,by kernel_rfl,by kernel_rfl⟩
section
variable {C:Cx}{P:Rj}{s:S2}
theorem XeO(O:C.Ok)(Rx:C.cells=[])(Ry:C.cellv=[])(hK:C.K=KF P)(E:RE C.ρ s):XB C 65 rN:=((I7 O Rx Ry hK E (Xde E) YU Xg6).le (m:=65) (by decide)).cal
theorem Xoc(E:RE C.ρ s):(kD s:Int)∈ks3:=by
 refine YF (I6 E.ok) λk1 k2 _=>?_
 generalize kD s=k at *
 exact n3E (n:=k) k1 k2 (by decide) (by decide) (by decide)
theorem Bo(O:C.Ok)(Rx:C.cells=[])(Ry:C.cellv=[])(hK:C.K=KF P)(E:RE C.ρ s){d w:Nat}(hd:d<=6)(hw:w<=2):TOK C 65 ⟨1330,[.ref 0,.ref 2,.bytes (bPr d)],JG [(3,⟨(w:Int),[]⟩)] (kD s:Int),.bool true,Jb 3 [(1,Zy (kD s:Int)),(2,.inst 863 1)] []⟩:=by
 refine YF (I6 E.ok) λk1 k2 _=>?_
 obtain ⟨m,e⟩:=XbS [] d hd
 have all:∀y∈YJ d [],y=some []:=λy hy=>List.eq_of_mem_replicate (e▸hy)
 have hm:GU [(92,(kD s:Int))] (zK (kD s:Int)) (rN (.fn 1330) [.ref 0,.ref 2,.bytes (bPr d)] (Jb 3 z3L [(3,⟨Int.ofNat w,[]⟩)]))∈YJ d []:=by
  have hx:∀w,GU [(92,(kD s:Int))] (zK (kD s:Int)) (rN (.fn 1330) [.ref 0,.ref 2,.bytes (bPr d)] (Jb 3 z3L [(3,⟨Int.ofNat w,[]⟩)]))∈WO d w []:=λw=>
   QC (f:=λk:Int=>GU [(92,k)] (zK k) (rN (.fn 1330) [.ref 0,.ref 2,.bytes (bPr d)] (Jb 3 z3L ((3,⟨Int.ofNat w,[]⟩)::[])))) (Xoc E)
  unfold YJ
  exact n3L (n:=w) (Nat.lt_succ_of_le hw) (QK _ (hx 0)) (Qk _ (QK _ (hx 1))) (Qk _ (Qk _ (hx 2)))
 refine YB (B8 (all _ hm)) λσ' e1 e2=>?_
 exact BZ (XeO O Rx Ry hK E) (Yw E.r92 YT) (XcP _ _ k1 k2) e1 e2
theorem XbJ(O:C.Ok)(Rx:C.cells=[])(Ry:C.cellv=[])(hK:C.K=KF P)(E:RE C.ρ s):TOK C 65 ⟨1325,[.ref 2,.bytes (bOf (nD s))],JG ZY (kD s:Int),.bool true,Jb 3 [(1,Zy (kD s:Int)),(2,.inst 863 1)] ZY⟩:=by
 refine YF (I6 E.ok) λk1 k2 _=>?_
 refine YF (Ge E.ok) λn1 n2 _=>?_
 refine YB (B8 ((NU (rest:=ZY) n1 n2).2.2.2.2.2.2.2 _ (Xoc E))) λσ' e1 e2=>?_
 exact BZ (XeO O Rx Ry hK E) (Yw E.r92 YT) (XcP _ _ k1 k2) e1 e2
theorem Yy{ρ:Nat->Int}{u:S2}{t:Int}{d:LI}{r:List (Int×LI)}(h0:0 < t)(h1:t<=1000)(hd:d.val ρ=tk u t)(hr:Jw ρ (ts u t).1 (ts u t).2 r):Jw ρ u.1 u.2 ((t,d)::r):=⟨h0,h1,hd,hr⟩
theorem BB(E:RE C.ρ s):Jw C.ρ (uk s (kD s)).1 (uk s (kD s)).2 ZY:=
 Yy (by decide) (by decide) (by rw[v1];exact E.r70) (Yy (by decide) (by decide) (by rw[v1];exact E.r71) trivial)
theorem BG(E:RE C.ρ s):∀r t,t + r=kD s->Jw C.ρ (uk s t).1 (uk s t).2 (Uq t r):=by
 intro ux
 induction ux with
 |zero=>
  intro t h
  have:t=kD s:=by lia
  subst this
  exact BB E
 |succ r ih=>
  intro t h
  have k2:=(I6 E.ok).2.1
  have ih:=ih (t + 1) (by lia)
  show Jw C.ρ (uk s t).1 (uk s t).2 (XhB t (Uq (t + 1) r))
  match t,h,ih with
  | 0,_,ih=>exact Yy (by decide) (by decide) (by rw[v1];exact E.r20) (Yy (by decide) (by decide) (by rw[v1];exact E.r30) (Yy (by decide) (by decide) (by rw[v1];exact E.r40) ih))
  | 1,_,ih=>exact Yy (by decide) (by decide) (by rw[v1];exact E.r21) (Yy (by decide) (by decide) (by rw[v1];exact E.r31) (Yy (by decide) (by decide) (by rw[v1];exact E.r41) ih))
  | 2,_,ih=>exact Yy (by decide) (by decide) (by rw[v1];exact E.r22) (Yy (by decide) (by decide) (by rw[v1];exact E.r32) (Yy (by decide) (by decide) (by rw[v1];exact E.r42) ih))
  |t + 3,h,_=>lia
theorem XaT(E:RE C.ρ s):Jw C.ρ s.1 s.2 ((8,⟨-2,[(0,1)]⟩)::(3,⟨-2,[(1,1)]⟩)::(30,⟨-9,[(2,1)]⟩)::(3,⟨(kD s:Int) - 1,[]⟩)::(30,⟨(nD s:Int) - 1,[]⟩)::(2,⟨bif cD s then 0 else 1,[]⟩)::ZE (kD s)):=by
 have c2:(⟨bif cD s then 0 else 1,[]⟩:LI).val C.ρ=tk (dw5 s) 2:=by
  obtain ⟨⟨a,b⟩,_⟩:=Ja (N2 E.ok).2.2.2.2.1 (t:=2) (by decide)
  show (bif cD s then (0:Int) else 1) + 0=_
  unfold cD
  by_cases h:tk (dw5 s) 2=0
  ·rw[Qo h];show (0:Int) + 0=_;lia
  ·rw[Qn h];show (1:Int) + 0=_;lia
 refine Yy (by decide) (by decide) ?_ (Yy (u:=dw1 s) (by decide) (by decide) ?_ (Yy (u:=dw2 s) (by decide) (by decide) ?_ (Yy (u:=dw3 s) (by decide) (by decide) ?_ (Yy (u:=dw4 s) (by decide) (by decide) ?_ (Yy (u:=dw5 s) (by decide) (by decide) c2
  (Yy (u:=dw6 s) (by decide) (by decide) (by rw[v1];exact E.r80) (Yy (u:=dw7 s) (by decide) (by decide) (by rw[v1];exact E.r81) (BG E (kD s) 0 (by lia)))))))))
 ·show -2 + (1 * C.ρ 0 + 0)=_;rw[E.r0];unfold fD;lia
 ·show -2 + (1 * C.ρ 1 + 0)=_;rw[E.r1];unfold OG;lia
 ·show -9 + (1 * C.ρ 2 + 0)=_;rw[E.r2];unfold ON;lia
 ·show (kD s:Int) - 1 + 0=_;rw[(I6 E.ok).2.2];lia
 ·show (nD s:Int) - 1 + 0=_;rw[(Ge E.ok).2.2];lia
theorem Xhw(O:C.Ok)(Rx:C.cells=[])(Ry:C.cellv=[])(hK:C.K=KF P)(E:RE C.ρ s):DD C s.1 s.2:=by
 refine YF (I6 E.ok) λk1 k2 _=>?_
 refine YF (Ge E.ok) λn1 n2 _=>?_
 have hr:=XeO O Rx Ry hK E
 have hF:Xm C.ρ fN:=(Xde E).ok
 refine YF (Xqi (k:=(kD s:Int)) (src:=ZY)) λz0 z1 z2=>?_
 refine ⟨(kD s:Int),bOf (nD s),(2,⟨bif cD s then 0 else 1,[]⟩)::ZE (kD s),(30,⟨(nD s:Int) - 1,[]⟩)::(2,⟨bif cD s then 0 else 1,[]⟩)::ZE (kD s),_,fN,[],rN,hF,YU,hr,Xme _ k1 k2,Xmf _ n1 n2,?_,?_,?_,XaT E⟩
 ·refine ⟨fN,[],_,Jb 3 [(1,Zy (kD s:Int)),(2,.inst 863 1)] ZY,hF,YU,IS hr (BE (n:=64) O Rx Ry hK (Xv3 O Rx Ry hK E) k1 (by lia)),?_,z0,z1,z2⟩
  exact (Xb6 (cD s)).trans NZ
 ·refine ⟨fN,[],_,Jb 3 [(1,Zy (kD s:Int)),(2,.inst 863 1)] ZY,hF,YU,IS hr (XbJ O Rx Ry hK E),?_,z0,z1,z2⟩
  exact Xej.trans NZ
 ·obtain ⟨⟨a1,a2⟩,o7⟩:=Ja (Xfl E.ok (kD s)) (t:=7) (by decide)
  obtain ⟨⟨b1,b2⟩,_⟩:=Ja o7 (t:=3) (by decide)
  have h70:=E.r70
  have h71:=E.r71
  obtain ⟨d,hd⟩:∃d:Nat,tk (uk s (kD s)) 7=d:=⟨_,(Int.toNat_of_nonneg a1).symm⟩
  obtain ⟨w,hw⟩:∃w:Nat,tk (ts (uk s (kD s)) 7) 3=w:=⟨_,(Int.toNat_of_nonneg b1).symm⟩
  refine ⟨fN,[],_,[(7,⟨(d:Int),[]⟩),(3,⟨(w:Int),[]⟩)],Jb 3 [(1,Zy (kD s:Int)),(2,.inst 863 1)] [],hF,YU,IS hr (Bo O Rx Ry hK E (d:=d) (w:=w) (by lia) (by lia)),?_,?_⟩
  ·rintro p q ⟨c1,c2,c3,c4,c5,c6,c7⟩
   refine ⟨c1,c2,?_,c4,c5,?_,trivial⟩
   ·rw[←c3,v1,h70,hd];show (d:Int) + 0=_;lia
   ·rw[←c6,v1,h71,hw];show (w:Int) + 0=_;lia
  ·refine (Xmg d (by lia)).trans ?_
   rw[NZ (t:=⟨1330,[.ref 0,.ref 2,.bytes (bPr d)],JG [(3,⟨(w:Int),[]⟩)] (kD s:Int),.bool true,Jb 3 [(1,Zy (kD s:Int)),(2,.inst 863 1)] []⟩)]
end
abbrev fdW:FuncData:=fdO "law" "law" (Yk 104) (Value.none) (Value.none) (Value.str (QW "law_pq1202_01") 1960) (Value.ref 1341)
theorem qW:(KE (Yk 104).2.2&&(Z2 [QW "script"]&&([QW "script"]:List Str).all λx=>Jz (XC (Yk 104).2.2.names x)))=true:=by kernel_rfl
theorem pW:([QW "script"]:List Str).map Nf=([166]:List Nat).map some:=by kernel_rfl
theorem Xbw{C:Cx}{P:Rj}(O:C.Ok)(Rx:C.cells=[])(Ry:C.cellv=[])(hK:C.K=KF P){n:Nat}{A:Around}(g:X5 A (n + 1)){s:Rk}{sa:Rn}(hH:C.H0=s.heap){Q:Result->Rk->Prop}
  (h:∀env L A' h₀ m tk,Yu C Wm [] [] L env->YK A' n->At C L [] (λ_=>none) ⟨.nil,0⟩ (l0 sa) h₀ m->
   Za (model C.prog C.w) A' (execs bW env) (λf s'=>Q (.ok (.ret (match f with | .ret v=>v |_=> .none))) s') (λ_ _=>False) {s with heap:=h₀,toks:=tk}):
  Zq (model C.prog C.w) A (.call (.ref 1342) ⟨[.ref sa],[]⟩) Q s:=by
 refine b3 qW λq1 q2 q3=>?_
 refine b4 q1 λg1 g2 g3 g4=>?_
 have R:Rp C [] (λ_=>none) ⟨.nil,0⟩ s.heap:=⟨rfl,λ_ _ _=>rfl,λb o e=>hH▸e,by rw[hH];exact QS _,λi o e=>by injection e⟩
 have X0:C.K.In s.heap:=O.inK.keeps R.keep
 have hb:Dy C fdW ⟨[166],[],Z4⟩:=U9 (fc:=⟨[166],[],Z4⟩) Ry pW q2 q3 (λRo=> .nil) (by rw[hK];exact Xnb P)
 refine YO (hb [] [.fn sa] [.ref sa] (l0 sa) s X0 (.cons (.fn sa) .nil) rfl) λbinds b1 b2 b3=>?_
 have hg:A.depth < recursionLimit:=by show A.depth < 1000;have:=g.2.1;lia
 have hl:C.K.lookup 1342=some ⟨.type "function",none,.func fdW,#[]⟩:=by rw[hK];exact Xoh P
 refine UI (fd:=fdW) (body:=bW) hg (X0 _ _ hl) rfl (O.top.nolimit.keeps R.keep) (codeRec_of X0 (by rw[hK];exact Xob P)) rfl b1 (ZK g1) b2 (λh₀ hns hkeep=>?_) (YY g2) (YY g3) (YM g4)
 have hL0:s.heap.get? s.heap.objs.size=none:=Ye _
 have F:Fr C.H0 s.heap.objs.size h₀ (λx=>binds.reverse.lookup x):=⟨hns,λb o e=>hkeep b o (R.keep b o e),R.big⟩
 have T:At C s.heap.objs.size [] (λ_=>none) ⟨.nil,0⟩ (l0 sa) h₀ (λx=>binds.reverse.lookup x):=
  ⟨⟨rfl,λ_ _ _=>rfl,F.keep,JS F,λi o e=>by injection e⟩,F,rfl,b3,λp hp=>by rw[Rx] at hp;cases hp⟩
 exact h _ _ _ h₀ _ _ ⟨⟨rfl,rfl,rfl,YM g4⟩,rfl,nofun,λx _=>by rw[Ry];rfl⟩ g.deeper T
theorem Xd3:Ko.name=QW "law":=by kernel_rfl
theorem M3(P:Rj):nsIn (KF P) mainGlobals (QW "law")=some (some (.ref 1342)):=by kernel_rfl
theorem Xn3:X5 callerA 66:=⟨rfl,by decide,by decide,rfl⟩
theorem XhM(ρ:Int->Nat->Nat->Int)(hρ:∀z len,GF (ρ z len) z len)(hfol:∀C P,C.Ok->C.cells=[]->C.cellv=[]->C.K=KF P->GD C tf0)
  (hruns:∀(C:Cx) P z len,C.Ok->C.cells=[]->C.cellv=[]->C.K=KF P->C.ρ=ρ z len->DD C (Jp z) (Jq z)):Xci:=by
 intro w s₀ s₁ mg mb G y a ha hgens args vals as hL hpre hlay hrd hwl hlow
 refine x24 (XbV hpre hrd) λsa items zz1 hlist hlen hz=>?_;subst zz1
 have hin0:(KF w.params).In s₀.heap:=by
  intro b o hb
  have e1:∀{K:Frag}{h:Heap},(K.map (·.1)).map h.get?=K.map (λp=>some p.2)->∀b o,K.lookup b=some o->h.get? b=some o:=by
   intro K h he
   induction K with
   |nil=>intro b o q;injection q
   |cons p r ih=>
    obtain ⟨i,ob⟩:=p
    simp only [QJ,List.cons.injEq] at he
    intro b o q
    rw[Rd] at q
    induction hq:(b == i) with
    |true=>
     rw[hq] at q
     cases q
     rw[eq_of_beq hq];exact he.1
    |false=>rw[hq] at q;exact ih he.2 b o q
  refine e1 ?_ b o hb
  rw[←XhQ w.params]
  exact y
 have hin:(KF w.params).In s₁.heap:=hin0.keeps hL.keeps
 obtain ⟨z,hz'⟩:∃z:Int,(items=[]/\z=0)∨∃t,items[0]?=some (.int z t):=by
  rcases hz with h |⟨z,t,h⟩
  ·exact ⟨0,.inl ⟨h,rfl⟩⟩
  ·exact ⟨z,.inr ⟨t,h⟩⟩
 let C:Cx:={prog:=prog,w:=w,H0:=s₁.heap,K:=KF w.params,mg:=mg,mb:=mb,p:=q0,loose:=looseW q0 Uj,ρ:=ρ z items.length}
 have O:C.Ok:=⟨hin,topRead_of G.T,Xbd w.params⟩
 have hr:=hruns C w.params z items.length O rfl rfl rfl rfl
 have hf:=hfol C w.params O rfl rfl rfl
 have haddr:a=1342:=by
  have e:=mg_of (K:=KF w.params) hin G.T.g (M3 w.params)
  rw[Xd3] at ha
  rw[ha] at e
  cases e;rfl
 subst haddr
 refine DZ (Xbw (C:=C) O rfl rfl rfl Xn3 rfl λenv L A' h₀ m tk X g T=>?_)
 refine Jk (XgP (C:=C) (s:={s₁ with heap:=h₀,toks:=tk}) O rfl rfl rfl hf X g (XdX hlist λ_ _ e=>e) (by lia) hz' (hρ z items.length) hr T) (λf s' h=>?_) λ_ _ z=>z
 refine Mf h λzz2 h1 h2 h3=>?_;subst zz2
 refine ⟨.inl ⟨.bool true,.bool true,[],rfl,λ_=>rfl,.bool true,?_,λ_=>⟨QP,nofun⟩⟩,.of_keep h3,h2,?_⟩
 ·show (WShape.has J8.records (.bool true) .bool&&WTm.holds J8.records (.eq .res (.lit (.bool true))) {args:=args,res:=some (.bool true),after:=args})=true
  kernel_rfl
 ·rw[show s'.gens=s₁.gens from h1]
  exact .of_eq hgens
end Tactic
end Mine
namespace Mine
open PySem PySem.W PySem.Calls PyProof.Rows
theorem Xwc:PySem.Challenge.rw_pq1202_01.wellSaid=true:=by
 unfold OpenLaw.wellSaid OpenRow.wellSaid OpenRow.partSaid looksOpen
 simp only [Bool.and_eq_true]
 and_intros
 all_goals first
  |(rw[PySem.W.Fast.te8326940854005059898];decide +kernel)
  |(rw[PySem.W.Fast.te17119622794617984870];decide +kernel)
  |(rw[PySem.W.Fast.te8377067652309620493];decide +kernel)
  |decide +kernel
end Mine
namespace Mine
namespace Tactic
open PySem PySem.W PySem.Spec PySem.Calls PyProof.Rows
theorem Xqf:Xci:=XhM rho XeC (λC P O h1 h2 h3=>XdA C P O h1 h2 h3) λC P z len O h1 h2 h3 h4=>Xhw (s:=(Jp z,Jq z)) O h1 h2 h3 (by rw[h4];exact XpK z len)
end Tactic
end Mine
end
open PySem PySem.W PyProof.Rows
theorem PySem.Challenge.cw_pq1202_01_holds : PySem.Challenge.rw_pq1202_01.Holds :=
 PySem.W.holds_law Mine.Xwc λk2=>Mine.Tactic.Xsd k2 Mine.Tactic.Xqf
