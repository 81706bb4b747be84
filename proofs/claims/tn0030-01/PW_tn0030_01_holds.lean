import PyProof.Rows.All
import Wide.All
import OpenK.AllK
import Wide.FinOn
import Lean
import PySem.Challenge.RW_tn0030_01
set_option Elab.async false
set_option maxRecDepth 100000
set_option maxHeartbeats 8000000
set_option synthInstance.maxHeartbeats 400000
set_option synthInstance.maxSize 10000
set_option genSizeOf false
set_option genInjectivity false
set_option genCtorIdx false
set_option linter.all false
set_option compiler.extract_closed false
section
local macro_rules (kind:=Lean.Parser.Command.declaration)|x=>let y:=if x[1].getKind==`Lean.Parser.Command.structure||x[1].getKind==`Lean.Parser.Command.inductive then x.rewriteBottomUp (·.setInfo .none)else x.setHeadInfo .none;if x.getPos?.isNone||y.getPos?.isSome then Lean.Macro.throwUnsupported else return y
namespace Ln
open Int.Internal.Linear
noncomputable section
noncomputable def li(l:List Int):Nat→Lean.RArray Int:=List.rec (fun _=>.leaf 0) (fun x _ r j=>.branch (j+1) (.leaf x) (r (j+1))) l
noncomputable def ln(l:List Nat):Nat→Lean.RArray Int:=List.rec (fun _=>.leaf 0) (fun x _ r j=>.branch (j+1) (.leaf x) (r (j+1))) l
noncomputable def cx(ie:List Int)(ne:List Nat):Lean.RArray Int:=.branch 1000 (li ie 0) (ln ne 1000)
theorem Ih(l:List Nat):∀j i,0≤(ln l j).get i:=
 List.rec (fun _ _=>Int.le_refl 0) (fun x l ih j i=>show 0≤(Bool.rec (x:Int) ((ln l (j+1)).get i) (Nat.ble (j+1) i):Int)from Bool.rec (Int.natCast_nonneg x) (ih _ _) (Nat.ble (j+1) i)) l
inductive P|r (k:Nat) (x y:Expr)|no (p:P)|an (p q:P)|ou (p q:P)
noncomputable def sel{α:Type _}(l:List α):Nat→α→α:=List.rec (fun _ d=>d) (fun x _ r k d=>Nat.rec x (fun n _=>r n d) k) l
section
variable (c:Lean.RArray Int)
noncomputable def P.d(p:P):Prop:=P.rec (fun k x y=>sel [x.denote c≤y.denote c,x.denote c<y.denote c,x.denote c=y.denote c,(x.denote c).toNat≤(y.denote c).toNat,(x.denote c).toNat<(y.denote c).toNat,(x.denote c).toNat=(y.denote c).toNat] k False) (fun _ p=>¬p) (fun _ _ p q=>p∧q) (fun _ _ p q=>p∨q) p
noncomputable def D(l:List P)(g:P):Prop:=List.rec (g.d c) (fun p _ r=>p.d c→r) l
end
noncomputable def mW(e:Expr):Bool:=Expr.rec (fun v=>Int.rec (fun _=>true) (fun _=>false) v) (fun i=>Nat.ble 1000 i) (fun _ _ a b=>a&&b) (fun _ _ _ _=>false) (fun _ _=>false) (fun k _ a=>Int.rec (fun _=>a) (fun _=>false) k) (fun _ _ _=>false) e
theorem DT(ie:List Int)(ne:List Nat)(e:Expr):mW e=true→0≤e.denote (cx ie ne):=
 Expr.rec (motive:=fun e=>mW e=true→0≤e.denote (cx ie ne)) (fun v=>Int.rec (fun n _=>Int.natCast_nonneg n) (fun _ h=>nomatch h) v)
  (fun i h=>show 0≤(Bool.rec ((li ie 0).get i) ((ln ne 1000).get i) (Nat.ble 1000 i):Int)by rw[show Nat.ble 1000 i=true from h];exact Ih ne _ i)
  (fun _ _ a b h=>have h:=Bool.and_eq_true_iff.mp h;Int.add_nonneg (a h.1) (b h.2))
  (fun _ _ _ _ h=>nomatch h) (fun _ _ h=>nomatch h)
  (fun k x a=>Int.rec (motive:=fun k=>mW (.mulL k x)=true→0≤(Expr.mulL k x).denote (cx ie ne)) (fun n h=>Int.mul_nonneg (Int.natCast_nonneg n) (a h)) (fun _ h=>nomatch h) k)
  (fun _ _ _ h=>nomatch h) e
noncomputable def df(z:Int)(x y:Expr):Poly:=(Expr.sub (.add x (.num z)) y).norm
noncomputable def pr(x y:List (List Poly)):List (List Poly):=x.flatMap fun a=>y.map (a++·)
noncomputable def P.h(p:P):Bool→List (List Poly):=P.rec (fun k x y b=>bif Nat.ble 3 k&&!(mW x&&mW y)then[[]]else
 bif b then sel [[[df 0 x y]],[[df 1 x y]],[[df 0 x y,df 0 y x]],[[df 0 x y]],[[df 1 x y]],[[df 0 x y,df 0 y x]]] k []else sel [[[df 1 y x]],[[df 0 y x]],[[df 1 x y],[df 1 y x]],[[df 1 y x]],[[df 0 y x]],[[df 1 x y],[df 1 y x]]] k [[]])
 (fun _ f b=>f (!b)) (fun _ _ f g b=>bif b then pr (f b) (g b)else f b++g b) (fun _ _ f g b=>bif b then f b++g b else pr (f b) (g b)) p
noncomputable def neg(z:Int):Bool:=Int.rec (fun _=>false) (fun _=>true) z
noncomputable def ai(z:Int):Bool:=Int.rec (fun n=>Nat.blt 0 n) (fun _=>false) z
noncomputable def Ii(v:Nat)(p:Poly):Int:=Poly.rec (fun _=>0) (fun a w _ r=>bif Nat.beq v w then a else r) p
noncomputable def Lb(hs:List Poly)(n:Nat):Poly→Bool:=Nat.rec (fun g=>Poly.rec ai (fun _ _ _ _=>false) g)
 (fun _ r g=>Poly.rec ai (fun a v _ _=>(bif Nat.ble 1000 v then .add (-1) v (.num 0)::hs else hs).any fun h =>
  (bif neg a then ai (Ii v h)else neg (Ii v h))&&r (g.combine_mul_k (Ii v h).natAbs a.natAbs h)) g) n
noncomputable def Lc(d:List Nat)(c a:List Poly):Bool:=d.any fun n=>(a++c).any (Lb (a++c) n)
noncomputable def ck(d:List Nat)(l:List P)(g:P):List Poly→Bool:=List.rec (fun c=>(g.h false).all (Lc d c)) (fun p _ r c=>(p.h true).all fun a=>r (a++c)) l
section
variable {ie:List Int}{ne:List Nat}
noncomputable def Al(ie:List Int)(ne:List Nat)(c:List Poly):Prop:=∀l∈c,l.denote (cx ie ne)≤0
theorem Ld(z:Int)(x y:Expr):(df z x y).denote (cx ie ne)=x.denote (cx ie ne)+z-y.denote (cx ie ne):=Expr.denote_norm ..
theorem Le:Al ie ne []:=fun _ h=>nomatch h
theorem Lf{p:Poly}(h:p.denote (cx ie ne)≤0):Al ie ne [p]:=fun _ hl=>List.mem_singleton.mp hl▸h
theorem yL{x y:List Poly}(hx:Al ie ne x)(hy:Al ie ne y):Al ie ne (x++y):=fun l hl=>(List.mem_append.mp hl).elim (hx l) (hy l)
theorem xg{x y:Expr}(h:x.denote (cx ie ne)≤y.denote (cx ie ne)):Al ie ne [df 0 x y]:=Lf (by rw[Ld];omega)
theorem xh{x y:Expr}(h:x.denote (cx ie ne)<y.denote (cx ie ne)):Al ie ne [df 1 x y]:=Lf (by rw[Ld];omega)
theorem tn{x y:Expr}(h:(mW x&&mW y)=true):((x.denote (cx ie ne)).toNat:Int)=x.denote (cx ie ne)∧((y.denote (cx ie ne)).toNat:Int)=y.denote (cx ie ne):=
 have h:=Bool.and_eq_true_iff.mp h
 ⟨Int.toNat_of_nonneg (DT _ _ _ h.1),Int.toNat_of_nonneg (DT _ _ _ h.2)⟩
noncomputable def up(k:Nat):Nat:=sel [0,1,2,0,1,2] k 6
theorem rN{k:Nat}{x y:Expr}(e:(Nat.ble 3 k&&!(mW x&&mW y))=false):(P.r k x y).d (cx ie ne)=(P.r (up k) x y).d (cx ie ne):=by
 have f (e:(mW x&&mW y)=true):=tn (ie:=ie) (ne:=ne) e
 match k,e with
 |0,_|1,_|2,_|_+6,_=>rfl
 |3,e=>have h:=f (by simpa using e);exact propext (show(x.denote (cx ie ne)).toNat≤(y.denote (cx ie ne)).toNat↔(x.denote (cx ie ne))≤(y.denote (cx ie ne))from Int.ofNat_le.symm.trans (by rw[h.1,h.2]))
 |4,e=>have h:=f (by simpa using e);exact propext (show(x.denote (cx ie ne)).toNat<(y.denote (cx ie ne)).toNat↔(x.denote (cx ie ne))<(y.denote (cx ie ne))from Int.ofNat_lt.symm.trans (by rw[h.1,h.2]))
 |5,e=>have h:=f (by simpa using e);exact propext (show(x.denote (cx ie ne)).toNat=(y.denote (cx ie ne)).toNat↔(x.denote (cx ie ne))=(y.denote (cx ie ne))from Int.ofNat_inj.symm.trans (by rw[h.1,h.2]))
noncomputable def Ex(ie:List Int)(ne:List Nat)(l:List (List Poly)):Prop:=∃a,a∈l∧Al ie ne a
theorem Qs{x y:List (List Poly)}:Ex ie ne x→Ex ie ne (x++y):=fun⟨a,h,k⟩=>⟨a,List.mem_append_left _ h,k⟩
theorem Qt{x y:List (List Poly)}:Ex ie ne y→Ex ie ne (x++y):=fun⟨a,h,k⟩=>⟨a,List.mem_append_right _ h,k⟩
theorem Qu{x y:List (List Poly)}:Ex ie ne x→Ex ie ne y→Ex ie ne (pr x y):=fun⟨_,h,k⟩ ⟨_,h',k'⟩=>⟨_,List.mem_flatMap.mpr ⟨_,h,List.mem_map.mpr ⟨_,h',rfl⟩⟩,yL k k'⟩
theorem ex1{a:List Poly}{l:List (List Poly)}(h:Al ie ne a):Ex ie ne (a::l):=⟨a,.head _,h⟩
theorem ex2{a b:List Poly}{l:List (List Poly)}(h:Al ie ne a):Ex ie ne (b::a::l):=⟨a,.tail _ (.head _),h⟩
theorem hs(p:P):∀b:Bool,(bif b then p.d (cx ie ne)else ¬p.d (cx ie ne))→Ex ie ne (p.h b):=by
 induction p with
 |r k x y =>
  intro b h;show Ex ie ne (bif Nat.ble 3 k&&!(mW x&&mW y)then[[]]else _);cases e:(Nat.ble 3 k&&!(mW x&&mW y))with
  |true=>exact ex1 Le
  |false =>
   rw[rN e]at h;cases b with
   |true =>
    rcases k with _|_|_|_|_|_|k
    ·exact ex1 (xg h)
    ·exact ex1 (xh h)
    ·exact ex1 (yL (xg (Int.le_of_eq h)) (xg (Int.le_of_eq h.symm)))
    ·exact ex1 (xg h)
    ·exact ex1 (xh h)
    ·exact ex1 (yL (xg (Int.le_of_eq h)) (xg (Int.le_of_eq h.symm)))
    exact h.elim
   |false =>
    rcases k with _|_|_|_|_|_|k
    ·exact ex1 (xh (Int.not_le.mp h))
    ·exact ex1 (xg (Int.not_lt.mp h))
    ·exact(Int.lt_or_gt_of_ne h).elim (fun h=>ex1 (xh h)) fun h=>ex2 (xh h)
    ·exact ex1 (xh (Int.not_le.mp h))
    ·exact ex1 (xg (Int.not_lt.mp h))
    ·exact(Int.lt_or_gt_of_ne h).elim (fun h=>ex1 (xh h)) fun h=>ex2 (xh h)
    exact ex1 Le
 |no p ih=>exact fun b h=>ih (!b) (by cases b with|true=>exact h|false=>exact Classical.not_not.mp h)
 |an p q ih uN =>
  intro b h;cases b with
  |true=>exact Qu (ih true h.1) (uN true h.2)
  |false=>exact(Classical.not_and_iff_not_or_not.mp h).elim (fun h=>Qs (ih false h)) fun h=>Qt (uN false h)
 |ou p q ih uN =>
  intro b h;cases b with
  |true=>exact h.elim (fun h=>Qs (ih true h)) fun h=>Qt (uN true h)
  |false=>exact Qu (ih false fun z=>h (.inl z)) (uN false fun z=>h (.inr z))
theorem DU{a:Int}(h:ai a=true):0<a:=by
 cases a with
 |ofNat n=>exact Int.ofNat_lt.mpr (Nat.blt_eq.mp h)
 |negSucc n=>cases h
theorem JK{hs:List Poly}(k:Al ie ne hs)(n:Nat):∀g:Poly,Lb hs n g=true→¬g.denote (cx ie ne)≤0:=by
 induction n with
 |zero =>
  intro g h;cases g with
  |num z=>exact Int.not_le.mpr (DU h)
  |add=>cases h
 |succ n ih =>
  intro g h hg;cases g with
  |num z=>exact Int.not_le.mpr (DU h) hg
  |add a v p =>
   have k':Al ie ne (bif Nat.ble 1000 v then .add (-1) v (.num 0)::hs else hs):=by
    cases e:Nat.ble 1000 v with
    |false=>exact k
    |true =>
     refine yL (x:=[_]) (Lf ?_) k;show -1*(Bool.rec ((li ie 0).get v) ((ln ne 1000).get v) (Nat.ble 1000 v):Int)+0≤0;rw[e];have:=Ih ne 1000 v;show -1*(ln ne 1000).get v+0≤0;omega
   obtain⟨x,hx,h⟩:=List.any_eq_true.mp h;have h:=(Bool.and_eq_true_iff.mp h).2;refine ih _ h ?_;rw[Poly.denote_combine_mul_k];have h1:=Int.mul_le_mul_of_nonneg_left hg (Int.natCast_nonneg (Ii v x).natAbs);have h2:=Int.mul_le_mul_of_nonneg_left (k' x hx) (Int.natCast_nonneg a.natAbs);rw[Int.mul_zero]at h1 h2;exact Int.add_nonpos h1 h2
theorem JM{d:List Nat}{c a:List Poly}(hc:Al ie ne c)(h:Lc d c a=true):¬Al ie ne a:=fun ha=>by
 obtain⟨n,-,h⟩:=List.any_eq_true.mp h
 obtain⟨g,hg,h⟩:=List.any_eq_true.mp h
 exact JK (yL ha hc) n g h (yL ha hc g hg)
end
end
noncomputable def UP(d:List Nat)(l:List P)(g:P):Bool:=ck d l g []
theorem ZD(ie:List Int)(ne:List Nat)(d:List Nat)(l:List P)(g:P)(h:UP d l g=true):D (cx ie ne) l g:=by
 suffices ∀c,Al ie ne c→ck d l g c=true→D (cx ie ne) l g from this [] Le h
 clear h
 induction l with
 |nil=>exact fun c hc h=>Classical.byContradiction fun n=>let⟨a,ha,k⟩:=hs g false n;JM hc (List.all_eq_true.mp h a ha) k
 |cons p l ih=>exact fun c hc h hp=>let⟨a,ha,k⟩:=hs p true hp;ih (a++c) (yL k hc) (List.all_eq_true.mp h a ha)
class AI (x:Int) (a:List Int) (b:List Nat) (c:outParam (List Int)) (d:outParam (List Nat)):Prop
class AN (x:Nat) (b:List Nat) (d:outParam (List Nat)):Prop
class AP (p:Prop) (a:List Int) (b:List Nat) (c:outParam (List Int)) (d:outParam (List Nat)):Prop
class IX {α:Type} (l:List α) (x:α) (j:Nat) (k:outParam Nat):Prop
class RE (ie:List Int) (ne:List Nat) (x:Int) (e:outParam Expr):Prop
class RN (ne:List Nat) (x:Nat) (e:outParam Expr):Prop
class RP (ie:List Int) (ne:List Nat) (p:Prop) (q:outParam P):Prop
class RW (ie:List Int) (ne:List Nat) (p:Prop) (l:outParam (List P)) (g:outParam P):Prop
class TT (a b:Bool):Prop
class LI (x:Int) (n:outParam Nat):Prop
class EQ (x:Int) (y:outParam Int):Prop
class EN (x:Nat) (y:outParam Nat):Prop
class LN (x:Nat) (k:outParam Nat):Prop
noncomputable def W0(_:List Int)(_:List Nat)(_:Prop)(_:List P)(_:P):Prop:=True
noncomputable def FW(ie:List Int)(ne:List Nat)(l:List P)(g:P)(p:Prop):Prop:=W0 ie ne p l g→p
section
variable {ie c e:List Int}{ne d f:List Nat}{x y:Int}{m n:Nat}{a b:Expr}{p r:Prop}{q q':P}{l:List P}
noncomputable def T{l:List P}{g:P}{p:Prop}(_:W0 ie ne p l g):Prop:=D (cx ie ne) l g
instance tt{b:Bool}:TT b b:=⟨⟩
instance eq:EQ x x:=⟨⟩
instance lI[EQ x (OfNat.ofNat m)][TT (Nat.beq m m) true]:LI x m:=⟨⟩
instance en:EN m m:=⟨⟩
instance ZE[EN n (OfNat.ofNat m)][TT (Nat.beq m m) true]:LN n m:=⟨⟩
instance (priority:=1) ZF:AI x c d (x::c) d:=⟨⟩
instance (priority:=2) ZG{k:Nat}[IX c x 0 k]:AI x c d c d:=⟨⟩
instance ZH[LI x m]:AI x c d c d:=⟨⟩
instance ZI[AN m d f]:AI (m:Int) c d c f:=⟨⟩
instance ZJ{c' d'}[AI x c d c' d'][AI y c' d' e f]:AI (x+y) c d e f:=⟨⟩
instance ZK{c' d'}[AI x c d c' d'][AI y c' d' e f]:AI (x-y) c d e f:=⟨⟩
instance ZL[AI x c d e f]:AI (-x) c d e f:=⟨⟩
instance ZM[LI x m][AI y c d e f]:AI (x*y) c d e f:=⟨⟩
instance ZN{k:Nat}[LI x m][LN n k]:AI (x ^ n) c d c d:=⟨⟩
instance ZO[LI x m][AI y c d e f]:AI (y*x) c d e f:=⟨⟩
instance (priority:=1) an0:AN m d (m::d):=⟨⟩
instance (priority:=2) ZP{k:Nat}[IX d m 1000 k]:AN m d d:=⟨⟩
instance an1{k}[LN m k]:AN m d d:=⟨⟩
instance an3{d'}[AN m d d'][AN n d' f]:AN (m+n) d f:=⟨⟩
instance an6{k}[LN m k][AN n d f]:AN (m*n) d f:=⟨⟩
instance ZQ{c' d'}[AI x c d c' d'][AI y c' d' e f]:AP (x≤y) c d e f:=⟨⟩
instance ZR{c' d'}[AI x c d c' d'][AI y c' d' e f]:AP (x<y) c d e f:=⟨⟩
instance ZS{c' d'}[AI x c d c' d'][AI y c' d' e f]:AP (x=y) c d e f:=⟨⟩
instance ZT{d'}[AN m d d'][AN n d' f]:AP (m≤n) c d c f:=⟨⟩
instance ZU{d'}[AN m d d'][AN n d' f]:AP (m<n) c d c f:=⟨⟩
instance ZV{d'}[AN m d d'][AN n d' f]:AP (m=n) c d c f:=⟨⟩
instance ZW[AP p c d e f]:AP (¬p) c d e f:=⟨⟩
instance ZX{c' d'}[AP p c d c' d'][AP r c' d' e f]:AP (p∧r) c d e f:=⟨⟩
instance ZY{c' d'}[AP p c d c' d'][AP r c' d' e f]:AP (p∨r) c d e f:=⟨⟩
instance Z0:AP False c d c d:=⟨⟩
instance Z1{c' d'}[AP r c d c' d'][AP p c' d' e f]:AP (p→r) c d e f:=⟨⟩
instance Z2{α:Type}{x:α}{l:List α}{j:Nat}:IX (x::l) x j j:=⟨⟩
instance (priority:=10) Z3{α:Type}{x y:α}{l:List α}{j k:Nat}[IX l x (.succ j) k]:IX (y::l) x j k:=⟨⟩
instance (priority:=1) Z4{k:Nat}[IX ie x 0 k]:RE ie ne x (.var k):=⟨⟩
instance Z5[LI x m]:RE ie ne x (.num (.ofNat m)):=⟨⟩
instance Z6[RN ne m a]:RE ie ne (m:Int) a:=⟨⟩
instance Z7[RE ie ne x a][RE ie ne y b]:RE ie ne (x+y) (.add a b):=⟨⟩
instance Z8[RE ie ne x a][RE ie ne y b]:RE ie ne (x-y) (.sub a b):=⟨⟩
instance Z9[RE ie ne x a]:RE ie ne (-x) (.neg a):=⟨⟩
instance re6[LI x m][RE ie ne y b]:RE ie ne (x*y) (.mulL (.ofNat m) b):=⟨⟩
instance re8{k}[LI x m][LN n k]:RE ie ne (x ^ n) (.num (x ^ n)):=⟨⟩
instance re7[LI x m][RE ie ne y b]:RE ie ne (y*x) (.mulR b (.ofNat m)):=⟨⟩
instance (priority:=1) rn0{k:Nat}[IX ne m 1000 k]:RN ne m (.var k):=⟨⟩
instance rn1{k}[LN m k]:RN ne m (.num (.ofNat k)):=⟨⟩
instance rn3[RN ne m a][RN ne n b]:RN ne (m+n) (.add a b):=⟨⟩
instance rn6{k}[LN m k][RN ne n b]:RN ne (m*n) (.mulL (.ofNat k) b):=⟨⟩
instance rp0[RE ie ne x a][RE ie ne y b]:RP ie ne (x≤y) (.r 0 a b):=⟨⟩
instance rp1[RE ie ne x a][RE ie ne y b]:RP ie ne (x<y) (.r 1 a b):=⟨⟩
instance rp2[RE ie ne x a][RE ie ne y b]:RP ie ne (x=y) (.r 2 a b):=⟨⟩
instance rp3[RN ne m a][RN ne n b]:RP ie ne (m≤n) (.r 3 a b):=⟨⟩
instance rp4[RN ne m a][RN ne n b]:RP ie ne (m<n) (.r 4 a b):=⟨⟩
instance rp5[RN ne m a][RN ne n b]:RP ie ne (m=n) (.r 5 a b):=⟨⟩
instance rp6[RP ie ne p q]:RP ie ne (¬p) (.no q):=⟨⟩
instance rp7[RP ie ne p q][RP ie ne r q']:RP ie ne (p∧r) (.an q q'):=⟨⟩
instance rpo[RP ie ne p q][RP ie ne r q']:RP ie ne (p∨r) (.ou q q'):=⟨⟩
instance rp8:RP ie ne False (.r 6 (.num 0) (.num 0)):=⟨⟩
instance rw1[RP ie ne p q][RW ie ne r l q']:RW ie ne (p→r) (q::l) q':=⟨⟩
instance (priority:=1) rw0[RP ie ne p q]:RW ie ne p [] q:=⟨⟩
noncomputable def d1:List Nat:=[1,2,3,4,6]
noncomputable def d2:List Nat:=[1,2,3]
noncomputable def d3:List Nat:=[7,8,10]
theorem w0[AP p [] [] ie ne][RW ie ne p l q]:W0 ie ne p l q:=trivial
end
theorem fT(x:Int):(x.toNat:Int)=x∧0≤x∨(x.toNat:Int)=0∧x≤0:=(Int.le_total 0 x).elim (fun h=>.inl ⟨Int.toNat_of_nonneg h,h⟩) fun h=>.inr ⟨congrArg Int.ofNat (Int.toNat_of_nonpos h),h⟩
theorem fS(a b:Nat):a-b+b=a∧b≤a∨a-b=0∧a≤b:=(Nat.le_total b a).elim (fun h=>.inl ⟨Nat.sub_add_cancel h,h⟩) fun h=>.inr ⟨Nat.sub_eq_zero_of_le h,h⟩
theorem fm(a b:Int):min a b=a∧a≤b∨min a b=b∧b≤a:=(Int.le_total a b).elim (fun h=>.inl ⟨Int.min_eq_left h,h⟩) fun h=>.inr ⟨Int.min_eq_right h,h⟩
theorem fM(a b:Int):max a b=b∧a≤b∨max a b=a∧b≤a:=(Int.le_total a b).elim (fun h=>.inl ⟨Int.max_eq_right h,h⟩) fun h=>.inr ⟨Int.max_eq_left h,h⟩
theorem gm(a b:Nat):min a b=a∧a≤b∨min a b=b∧b≤a:=(Nat.le_total a b).elim (fun h=>.inl ⟨Nat.min_eq_left h,h⟩) fun h=>.inr ⟨Nat.min_eq_right h,h⟩
theorem gM(a b:Nat):max a b=b∧a≤b∨max a b=a∧b≤a:=(Nat.le_total a b).elim (fun h=>.inl ⟨Nat.max_eq_right h,h⟩) fun h=>.inr ⟨Nat.max_eq_left h,h⟩
theorem fd(a k:Int)(h:0<k):k*(a/k)≤a∧a<k*(a/k)+k:=⟨Int.mul_ediv_self_le (Int.ne_of_gt h),Int.lt_mul_ediv_self_add h⟩
theorem gd(a k:Nat)(h:0<k):k*(a/k)≤a∧a<k*(a/k)+k:=⟨Nat.mul_div_le a k,Nat.lt_mul_div_succ a h⟩
theorem fr(a k:Int):a%k=a-k*(a/k):=Int.emod_def a k
theorem gr(a k:Nat):k*(a/k)+a%k=a:=Nat.div_add_mod a k
theorem fi(c:Prop)[Decidable c](a b:Int):c∧(if c then a else b)=a∨¬c∧(if c then a else b)=b:=(Classical.em c).elim (fun h=>.inl ⟨h,if_pos h⟩) fun h=>.inr ⟨h,if_neg h⟩
theorem gi(c:Prop)[Decidable c](a b:Nat):c∧(if c then a else b)=a∨¬c∧(if c then a else b)=b:=(Classical.em c).elim (fun h=>.inl ⟨h,if_pos h⟩) fun h=>.inr ⟨h,if_neg h⟩
theorem clip(n:Nat)(p:Int):(max 0 (min p n)).toNat=min p.toNat n:=by
 cases p with
 |ofNat k =>
  have e:min (Int.ofNat k) (n:Int)=((min k n:Nat):Int):=(Nat.le_total k n).elim (fun h=>(Int.min_eq_left (Int.ofNat_le.mpr h)).trans (congrArg Int.ofNat (Nat.min_eq_left h).symm)) fun h=>(Int.min_eq_right (Int.ofNat_le.mpr h)).trans (congrArg Int.ofNat (Nat.min_eq_right h).symm);rw[e,Int.max_eq_right (Int.natCast_nonneg _)];rfl
 |negSucc k =>
  have h:=Int.le_of_lt (Int.negSucc_lt_zero k);rw[Int.min_eq_left (Int.le_trans h (Int.natCast_nonneg n)),Int.max_eq_left h];exact(Nat.zero_min n).symm
end Ln
namespace Lake
noncomputable def ZZ(p:Prop):Prop:=p
theorem zz{p:Prop}(h:ZZ p):p:=h
theorem zy{p:Prop}(h:p):ZZ p=True:=eq_true h
theorem an2{a0 a1 G:Prop}(h:a0∧a1)(k:a0→a1→G):G:=k h.1 h.2
theorem an3{a0 a1 a2 G:Prop}(h:a0∧a1∧a2)(k:a0→a1→a2→G):G:=k h.1 h.2.1 h.2.2
theorem an4{a0 a1 a2 a3 G:Prop}(h:a0∧a1∧a2∧a3)(k:a0→a1→a2→a3→G):G:=k h.1 h.2.1 h.2.2.1 h.2.2.2
theorem an5{a0 a1 a2 a3 a4 G:Prop}(h:a0∧a1∧a2∧a3∧a4)(k:a0→a1→a2→a3→a4→G):G:=k h.1 h.2.1 h.2.2.1 h.2.2.2.1 h.2.2.2.2
theorem an6{a0 a1 a2 a3 a4 a5 G:Prop}(h:a0∧a1∧a2∧a3∧a4∧a5)(k:a0→a1→a2→a3→a4→a5→G):G:=k h.1 h.2.1 h.2.2.1 h.2.2.2.1 h.2.2.2.2.1 h.2.2.2.2.2
theorem an7{a0 a1 a2 a3 a4 a5 a6 G:Prop}(h:a0∧a1∧a2∧a3∧a4∧a5∧a6)(k:a0→a1→a2→a3→a4→a5→a6→G):G:=k h.1 h.2.1 h.2.2.1 h.2.2.2.1 h.2.2.2.2.1 h.2.2.2.2.2.1 h.2.2.2.2.2.2
theorem an8{a0 a1 a2 a3 a4 a5 a6 a7 G:Prop}(h:a0∧a1∧a2∧a3∧a4∧a5∧a6∧a7)(k:a0→a1→a2→a3→a4→a5→a6→a7→G):G:=k h.1 h.2.1 h.2.2.1 h.2.2.2.1 h.2.2.2.2.1 h.2.2.2.2.2.1 h.2.2.2.2.2.2.1 h.2.2.2.2.2.2.2
theorem an9{a0 a1 a2 a3 a4 a5 a6 a7 a8 G:Prop}(h:a0∧a1∧a2∧a3∧a4∧a5∧a6∧a7∧a8)(k:a0→a1→a2→a3→a4→a5→a6→a7→a8→G):G:=k h.1 h.2.1 h.2.2.1 h.2.2.2.1 h.2.2.2.2.1 h.2.2.2.2.2.1 h.2.2.2.2.2.2.1 h.2.2.2.2.2.2.2.1 h.2.2.2.2.2.2.2.2
theorem an10{a0 a1 a2 a3 a4 a5 a6 a7 a8 a9 G:Prop}(h:a0∧a1∧a2∧a3∧a4∧a5∧a6∧a7∧a8∧a9)(k:a0→a1→a2→a3→a4→a5→a6→a7→a8→a9→G):G:=k h.1 h.2.1 h.2.2.1 h.2.2.2.1 h.2.2.2.2.1 h.2.2.2.2.2.1 h.2.2.2.2.2.2.1 h.2.2.2.2.2.2.2.1 h.2.2.2.2.2.2.2.2.1 h.2.2.2.2.2.2.2.2.2
theorem an11{a0 a1 a2 a3 a4 a5 a6 a7 a8 a9 nZ G:Prop}(h:a0∧a1∧a2∧a3∧a4∧a5∧a6∧a7∧a8∧a9∧nZ)(k:a0→a1→a2→a3→a4→a5→a6→a7→a8→a9→nZ→G):G:=k h.1 h.2.1 h.2.2.1 h.2.2.2.1 h.2.2.2.2.1 h.2.2.2.2.2.1 h.2.2.2.2.2.2.1 h.2.2.2.2.2.2.2.1 h.2.2.2.2.2.2.2.2.1 h.2.2.2.2.2.2.2.2.2.1 h.2.2.2.2.2.2.2.2.2.2
theorem an12{a0 a1 a2 a3 a4 a5 a6 a7 a8 a9 nZ rn G:Prop}(h:a0∧a1∧a2∧a3∧a4∧a5∧a6∧a7∧a8∧a9∧nZ∧rn)(k:a0→a1→a2→a3→a4→a5→a6→a7→a8→a9→nZ→rn→G):G:=k h.1 h.2.1 h.2.2.1 h.2.2.2.1 h.2.2.2.2.1 h.2.2.2.2.2.1 h.2.2.2.2.2.2.1 h.2.2.2.2.2.2.2.1 h.2.2.2.2.2.2.2.2.1 h.2.2.2.2.2.2.2.2.2.1 h.2.2.2.2.2.2.2.2.2.2.1 h.2.2.2.2.2.2.2.2.2.2.2
theorem an13{a0 a1 a2 a3 a4 a5 a6 a7 a8 a9 nZ rn xi G:Prop}(h:a0∧a1∧a2∧a3∧a4∧a5∧a6∧a7∧a8∧a9∧nZ∧rn∧xi)(k:a0→a1→a2→a3→a4→a5→a6→a7→a8→a9→nZ→rn→xi→G):G:=k h.1 h.2.1 h.2.2.1 h.2.2.2.1 h.2.2.2.2.1 h.2.2.2.2.2.1 h.2.2.2.2.2.2.1 h.2.2.2.2.2.2.2.1 h.2.2.2.2.2.2.2.2.1 h.2.2.2.2.2.2.2.2.2.1 h.2.2.2.2.2.2.2.2.2.2.1 h.2.2.2.2.2.2.2.2.2.2.2.1 h.2.2.2.2.2.2.2.2.2.2.2.2
theorem an14{a0 a1 a2 a3 a4 a5 a6 a7 a8 a9 nZ rn xi DV G:Prop}(h:a0∧a1∧a2∧a3∧a4∧a5∧a6∧a7∧a8∧a9∧nZ∧rn∧xi∧DV)(k:a0→a1→a2→a3→a4→a5→a6→a7→a8→a9→nZ→rn→xi→DV→G):G:=k h.1 h.2.1 h.2.2.1 h.2.2.2.1 h.2.2.2.2.1 h.2.2.2.2.2.1 h.2.2.2.2.2.2.1 h.2.2.2.2.2.2.2.1 h.2.2.2.2.2.2.2.2.1 h.2.2.2.2.2.2.2.2.2.1 h.2.2.2.2.2.2.2.2.2.2.1 h.2.2.2.2.2.2.2.2.2.2.2.1 h.2.2.2.2.2.2.2.2.2.2.2.2.1 h.2.2.2.2.2.2.2.2.2.2.2.2.2
theorem an15{a0 a1 a2 a3 a4 a5 a6 a7 a8 a9 nZ rn xi DV Qv G:Prop}(h:a0∧a1∧a2∧a3∧a4∧a5∧a6∧a7∧a8∧a9∧nZ∧rn∧xi∧DV∧Qv)(k:a0→a1→a2→a3→a4→a5→a6→a7→a8→a9→nZ→rn→xi→DV→Qv→G):G:=k h.1 h.2.1 h.2.2.1 h.2.2.2.1 h.2.2.2.2.1 h.2.2.2.2.2.1 h.2.2.2.2.2.2.1 h.2.2.2.2.2.2.2.1 h.2.2.2.2.2.2.2.2.1 h.2.2.2.2.2.2.2.2.2.1 h.2.2.2.2.2.2.2.2.2.2.1 h.2.2.2.2.2.2.2.2.2.2.2.1 h.2.2.2.2.2.2.2.2.2.2.2.2.1 h.2.2.2.2.2.2.2.2.2.2.2.2.2.1 h.2.2.2.2.2.2.2.2.2.2.2.2.2.2
theorem ex1{t0:Sort _}{P:t0→Prop}{G:Prop}(h:∃x0,P x0)(k:∀x0,P x0→G):G:=by obtain⟨x0,h⟩:=h;exact k x0 h
theorem ex2{t0 t1:Sort _}{P:t0→t1→Prop}{G:Prop}(h:∃x0 x1,P x0 x1)(k:∀x0 x1,P x0 x1→G):G:=by obtain⟨x0,x1,h⟩:=h;exact k x0 x1 h
theorem ex3{t0 t1 t2:Sort _}{P:t0→t1→t2→Prop}{G:Prop}(h:∃x0 x1 x2,P x0 x1 x2)(k:∀x0 x1 x2,P x0 x1 x2→G):G:=by obtain⟨x0,x1,x2,h⟩:=h;exact k x0 x1 x2 h
theorem ex4{t0 t1 t2 t3:Sort _}{P:t0→t1→t2→t3→Prop}{G:Prop}(h:∃x0 x1 x2 x3,P x0 x1 x2 x3)(k:∀x0 x1 x2 x3,P x0 x1 x2 x3→G):G:=by obtain⟨x0,x1,x2,x3,h⟩:=h;exact k x0 x1 x2 x3 h
theorem ex5{t0 t1 t2 t3 t4:Sort _}{P:t0→t1→t2→t3→t4→Prop}{G:Prop}(h:∃x0 x1 x2 x3 x4,P x0 x1 x2 x3 x4)(k:∀x0 x1 x2 x3 x4,P x0 x1 x2 x3 x4→G):G:=by obtain⟨x0,x1,x2,x3,x4,h⟩:=h;exact k x0 x1 x2 x3 x4 h
theorem ex6{t0 t1 t2 t3 t4 t5:Sort _}{P:t0→t1→t2→t3→t4→t5→Prop}{G:Prop}(h:∃x0 x1 x2 x3 x4 x5,P x0 x1 x2 x3 x4 x5)(k:∀x0 x1 x2 x3 x4 x5,P x0 x1 x2 x3 x4 x5→G):G:=by obtain⟨x0,x1,x2,x3,x4,x5,h⟩:=h;exact k x0 x1 x2 x3 x4 x5 h
theorem Qw{α:Type _}{x:Option α}{y:α}{G:Prop}(h:x=none)(k:x=some y):G:=nomatch h.symm.trans k
theorem Y1{α:Type _}{x:α}{G:Prop}(h:some x=none):G:=nomatch h
theorem Y2{G:Prop}(h:false=true):G:=nomatch h
theorem Y3{G:Prop}(h:true=false):G:=nomatch h
theorem cR{α β:Type _}{f:α→Option β}{a b:α}{v:β}(h:f b=none)(e:f a=some v):b≠a:=fun z=>Qw h (z▸e)
theorem cD{α β:Type _}{f:α→Option β}{a b:α}{v:β}(h:f b=none)(e:f a=some v):a≠b:=fun z=>Qw h (z▸e)
@[elab_as_elim] theorem rwl{α:Sort _}{b a:α}(h:a=b){M:α→Prop}(p:M b):M a:=h▸p
@[elab_as_elim] theorem rwr{α:Sort _}{a b:α}(h:a=b){M:α→Prop}(p:M a):M b:=h▸p
end Lake
section
open PySem PySem.W PySem.Calls PyProof.Rows
namespace Lake
section
variable {a:Type}[Nonempty a]{b:Type}[Nonempty b]{c:Type}[Nonempty c]{d:Type}[Nonempty d]{e:Type}[Nonempty e]{f:Type}[Nonempty f]{g:Type}[Nonempty g]{h:Type}[Nonempty h]{i:Type}[Nonempty i]{j:Type}[Nonempty j]{k:Type}[Nonempty k]{l:Type}[Nonempty l]{m:Type}[Nonempty m]{n:Type}[Nonempty n]{o:Type}[Nonempty o]{p:Type}[Nonempty p]{q:Type}[Nonempty q]{r:Type}[Nonempty r]{s:Type}[Nonempty s]{t:Type}[Nonempty t]
theorem hk0{P:a→Prop}(h:P (Classical.epsilon fun x=>¬P x)):∀x,P x:=fun x=>Classical.byContradiction fun n=>Classical.epsilon_spec (p:=fun x=>¬P x) ⟨x,n⟩ h
noncomputable def kk1(P:a→Prop):a:=Classical.epsilon fun c=>¬P c
noncomputable def HT1(P:a→Prop):Prop:=∀x,P x
theorem hk1(P:a→Prop)(h:P (kk1 P)):HT1 P:=hk0 h
noncomputable def U2(P:a→b→Prop)(z:a×b):Prop:=P z.1 z.2
noncomputable def kk2(P:a→b→Prop):a×b:=kk1 (U2 P)
noncomputable def HT2(P:a→b→Prop):Prop:=∀A B,P A B
theorem hk2(P:a→b→Prop)(h:U2 P (kk2 P)):HT2 P:=fun A B=>hk0 (P:=U2 P) h (A,B)
noncomputable def U3(P:a→b→c→Prop)(z:a×b×c):Prop:=P z.1 z.2.1 z.2.2
noncomputable def kk3(P:a→b→c→Prop):a×b×c:=kk1 (U3 P)
noncomputable def HT3(P:a→b→c→Prop):Prop:=∀A B C,P A B C
theorem hk3(P:a→b→c→Prop)(h:U3 P (kk3 P)):HT3 P:=fun A B C=>hk0 (P:=U3 P) h (A,B,C)
noncomputable def U5(P:a→b→c→d→e→Prop)(z:a×b×c×d×e):Prop:=P z.1 z.2.1 z.2.2.1 z.2.2.2.1 z.2.2.2.2
noncomputable def kk5(P:a→b→c→d→e→Prop):a×b×c×d×e:=kk1 (U5 P)
noncomputable def HT5(P:a→b→c→d→e→Prop):Prop:=∀A B C D E,P A B C D E
theorem hk5(P:a→b→c→d→e→Prop)(h:U5 P (kk5 P)):HT5 P:=fun A B C D E=>hk0 (P:=U5 P) h (A,B,C,D,E)
noncomputable def U7(P:a→b→c→d→e→f→g→Prop)(z:a×b×c×d×e×f×g):Prop:=P z.1 z.2.1 z.2.2.1 z.2.2.2.1 z.2.2.2.2.1 z.2.2.2.2.2.1 z.2.2.2.2.2.2
noncomputable def kk7(P:a→b→c→d→e→f→g→Prop):a×b×c×d×e×f×g:=kk1 (U7 P)
noncomputable def HT7(P:a→b→c→d→e→f→g→Prop):Prop:=∀A B C D E F G,P A B C D E F G
theorem hk7(P:a→b→c→d→e→f→g→Prop)(h:U7 P (kk7 P)):HT7 P:=fun A B C D E F G=>hk0 (P:=U7 P) h (A,B,C,D,E,F,G)
noncomputable def U9(P:a→b→c→d→e→f→g→h→i→Prop)(z:a×b×c×d×e×f×g×h×i):Prop:=P z.1 z.2.1 z.2.2.1 z.2.2.2.1 z.2.2.2.2.1 z.2.2.2.2.2.1 z.2.2.2.2.2.2.1 z.2.2.2.2.2.2.2.1 z.2.2.2.2.2.2.2.2
noncomputable def kk9(P:a→b→c→d→e→f→g→h→i→Prop):a×b×c×d×e×f×g×h×i:=kk1 (U9 P)
noncomputable def HT9(P:a→b→c→d→e→f→g→h→i→Prop):Prop:=∀A B C D E F G H I,P A B C D E F G H I
theorem hk9(P:a→b→c→d→e→f→g→h→i→Prop)(h:U9 P (kk9 P)):HT9 P:=fun A B C D E F G H I=>hk0 (P:=U9 P) h (A,B,C,D,E,F,G,H,I)
noncomputable def Lg(P:a→b→c→d→e→f→g→h→i→j→k→l→Prop)(z:a×b×c×d×e×f×g×h×i×j×k×l):Prop:=P z.1 z.2.1 z.2.2.1 z.2.2.2.1 z.2.2.2.2.1 z.2.2.2.2.2.1 z.2.2.2.2.2.2.1 z.2.2.2.2.2.2.2.1 z.2.2.2.2.2.2.2.2.1 z.2.2.2.2.2.2.2.2.2.1 z.2.2.2.2.2.2.2.2.2.2.1 z.2.2.2.2.2.2.2.2.2.2.2
noncomputable def kk12(P:a→b→c→d→e→f→g→h→i→j→k→l→Prop):a×b×c×d×e×f×g×h×i×j×k×l:=kk1 (Lg P)
noncomputable def HT12(P:a→b→c→d→e→f→g→h→i→j→k→l→Prop):Prop:=∀A B C D E F G H I J K L,P A B C D E F G H I J K L
theorem hk12(P:a→b→c→d→e→f→g→h→i→j→k→l→Prop)(h:Lg P (kk12 P)):HT12 P:=fun A B C D E F G H I J K L=>hk0 (P:=Lg P) h (A,B,C,D,E,F,G,H,I,J,K,L)
noncomputable def Lh(P:a→b→c→d→e→f→g→h→i→j→k→l→m→n→o→p→Prop)(z:a×b×c×d×e×f×g×h×i×j×k×l×m×n×o×p):Prop:=P z.1 z.2.1 z.2.2.1 z.2.2.2.1 z.2.2.2.2.1 z.2.2.2.2.2.1 z.2.2.2.2.2.2.1 z.2.2.2.2.2.2.2.1 z.2.2.2.2.2.2.2.2.1 z.2.2.2.2.2.2.2.2.2.1 z.2.2.2.2.2.2.2.2.2.2.1 z.2.2.2.2.2.2.2.2.2.2.2.1 z.2.2.2.2.2.2.2.2.2.2.2.2.1 z.2.2.2.2.2.2.2.2.2.2.2.2.2.1 z.2.2.2.2.2.2.2.2.2.2.2.2.2.2.1 z.2.2.2.2.2.2.2.2.2.2.2.2.2.2.2
noncomputable def kk16(P:a→b→c→d→e→f→g→h→i→j→k→l→m→n→o→p→Prop):a×b×c×d×e×f×g×h×i×j×k×l×m×n×o×p:=kk1 (Lh P)
noncomputable def HT16(P:a→b→c→d→e→f→g→h→i→j→k→l→m→n→o→p→Prop):Prop:=∀A B C D E F G H I J K L M N O Z,P A B C D E F G H I J K L M N O Z
theorem hk16(P:a→b→c→d→e→f→g→h→i→j→k→l→m→n→o→p→Prop)(h:Lh P (kk16 P)):HT16 P:=fun A B C D E F G H I J K L M N O Z=>hk0 (P:=Lh P) h (A,B,C,D,E,F,G,H,I,J,K,L,M,N,O,Z)
noncomputable def Li(P:a→b→c→d→e→f→g→h→i→j→k→l→m→n→o→p→q→r→s→t→Prop)(z:a×b×c×d×e×f×g×h×i×j×k×l×m×n×o×p×q×r×s×t):Prop:=P z.1 z.2.1 z.2.2.1 z.2.2.2.1 z.2.2.2.2.1 z.2.2.2.2.2.1 z.2.2.2.2.2.2.1 z.2.2.2.2.2.2.2.1 z.2.2.2.2.2.2.2.2.1 z.2.2.2.2.2.2.2.2.2.1 z.2.2.2.2.2.2.2.2.2.2.1 z.2.2.2.2.2.2.2.2.2.2.2.1 z.2.2.2.2.2.2.2.2.2.2.2.2.1 z.2.2.2.2.2.2.2.2.2.2.2.2.2.1 z.2.2.2.2.2.2.2.2.2.2.2.2.2.2.1 z.2.2.2.2.2.2.2.2.2.2.2.2.2.2.2.1 z.2.2.2.2.2.2.2.2.2.2.2.2.2.2.2.2.1 z.2.2.2.2.2.2.2.2.2.2.2.2.2.2.2.2.2.1 z.2.2.2.2.2.2.2.2.2.2.2.2.2.2.2.2.2.2.1 z.2.2.2.2.2.2.2.2.2.2.2.2.2.2.2.2.2.2.2
noncomputable def kk20(P:a→b→c→d→e→f→g→h→i→j→k→l→m→n→o→p→q→r→s→t→Prop):a×b×c×d×e×f×g×h×i×j×k×l×m×n×o×p×q×r×s×t:=kk1 (Li P)
noncomputable def HT20(P:a→b→c→d→e→f→g→h→i→j→k→l→m→n→o→p→q→r→s→t→Prop):Prop:=∀A B C D E F G H I J K L M N O Z Q R S T,P A B C D E F G H I J K L M N O Z Q R S T
theorem hk20(P:a→b→c→d→e→f→g→h→i→j→k→l→m→n→o→p→q→r→s→t→Prop)(h:Li P (kk20 P)):HT20 P:=fun A B C D E F G H I J K L M N O Z Q R S T=>hk0 (P:=Li P) h (A,B,C,D,E,F,G,H,I,J,K,L,M,N,O,Z,Q,R,S,T)
end
instance:Nonempty World:=⟨⟨fun _ _=>0,{strHash:=fun _=>0,shareClass:=fun _=>0,mergeTok:=id,idOf:=fun _=>0,idOfShared:=fun _ _=>0,followText:=fun _=>false,idOfImm:=fun _=>0}⟩⟩
instance:Nonempty Around:=⟨{}⟩
instance:Nonempty Shared:=⟨{}⟩
instance:Nonempty Drawn:=⟨{}⟩
instance:Nonempty Model:=⟨model default Classical.ofNonempty⟩
instance:Nonempty Params:=⟨(Classical.ofNonempty:World).params⟩
end Lake
end
set_option compiler.reuse false
set_option compiler.extract_closed false
namespace Jm
open Lean
def sN(k:Name)(a:List Syntax):Syntax:=.node .none k a.toArray
def sX(w:String):Syntax:=.atom .none w
def sZ(a:List Syntax):Syntax:=sN nullKind a
def mp{α β:Type}(f:α→β)(l:List α):List β:=l.foldr (fun a r=>f a::r) []
def wd(s:String):List String:=s.splitOn " "
def hL:Syntax:=sN `Lean.Parser.Term.hygienicLParen [sX "(",sN hygieneInfoKind [mkIdent .anonymous]]
def sQ(ts:List Syntax):Syntax:=sN `Lean.Parser.Tactic.tacticSeq [sN `Lean.Parser.Tactic.tacticSeq1Indented [sZ (ts.intersperse (sX ";"))]]
def pu(x:Syntax)(z:List (Name×List Syntax)):List (Name×List Syntax):=(z.head!.1,x::z.head!.2)::z.tail
def nm(p:Name)(l:List Char):Name:=p++(String.ofList l).toName
def cl(c:Char)(k:Name)(b:List Syntax):Syntax:=
 bif c==')' then sN k b else bif c=='}' then sQ b else bif c==']' then sN `Lean.Parser.Term.app [b.head!,sZ b.tail]else bif c=='~' then sN `Lean.Parser.Term.byTactic [sX "by",sQ b]else bif c=='!' then sN groupKind [sX "|",sQ b]else
 sN `Lean.Parser.Term.typeAscription [hL,b.head!,sX ":",sZ b.tail,sX ")"]
def st(a:List Syntax)(z:List (Name×List Syntax))(w:String):List (Name×List Syntax):=
 let l:=w.toList
 let c:=l.head!
 let t:=l.tail
 bif c=='(' then(bif t.head!=='n' then nullKind else nm (bif t.head!=='t' then `Lean.Parser.Tactic else bif t.head!=='m' then `Lean.Parser.Term else .anonymous) t.tail,[])::z else
 bif c=='{'||c=='['||c=='<' then(.anonymous,[])::z else
 bif c==')'||c=='}'||c==']'||c=='>'||c=='~'||c=='!' then pu (cl c z.head!.1 z.head!.2.reverse) z.tail else
 pu (bif c=='$' then a.getD (t.head!.toNat-48) (sX "")else bif c=='%' then mkIdent (nm .anonymous t)else sX (bif c=='\'' then String.ofList t else w)) z
def q(a:List Syntax)(s:String):Syntax:=((wd s).foldl (st a) [(.anonymous,[])]).head!.2.head!
def sP(f:String)(a:List Syntax):Syntax:=let i:=mkIdent f.toName;bif a.isEmpty then i else cl ']' .anonymous (i::a)
def sR(t:Syntax):Syntax:=q [t] "(trefine refine $0 )"
def sW(t:Syntax):Syntax:=q [t] "(twithReducible with_reducible { $0 } )"
def sF(l:List (List Syntax)):Syntax:=q [sZ (mp (fun t=>cl '!' .anonymous t) l)] "(tfirst first $0 )"
def sL:Syntax:=q [] "(twithUnfoldingAll with_unfolding_all { (ttacticRfl rfl ) } )"
def sS:Syntax:=q [] "(tassumption assumption )"
def om:Syntax:=q [] "(tomega omega (toptConfig (n ) ) )"
def sJ:Syntax:=q [] "(msyntheticHole ? _ )"
def tA:List (Char×Syntax):=mp (fun w=>(w.front,q [sS,sL] (w.drop 1).toString)) ("?(msyntheticHole ? _ )
R{ (kPyProof.Rows.tacticF_are f_are ) ~
A{ $0 ~
a{ (twithReducible with_reducible { $0 } ) ~
D{ (tfirst first (n { $1 ! { (tdecide decide (toptConfig (n ) ) ) ! ) ) ~
O{ (kPySem.W.tacticKt_le kt_le ) ~
L{ (kPyProof.Rows.tacticDa_tab da_tab ) ~
B{ (kPyProof.Rows.tacticBack_ro back_ro ) ~
E[ %of_decide_eq_true { (kPyProof.Rows.tacticF_are f_are ) ~ ]
S{ (kPyProof.Rows.tacticDa_there da_there ) ~
s{ (kPyProof.Rows.tacticDl_there dl_there ) ~
T{ (twithUnfoldingAll with_unfolding_all { (ttacticTrivial trivial ) } ) ~
W{ (twithUnfoldingAll with_unfolding_all { $0 } ) ~
U{ (tintros intros (n ) ) $1 ~
G{ (tintros intros (n ) ) (trefine refine (manonymousCtor ⟨ (n (mhole _ ) , { $1 ~ ) ⟩ ) ) ~
C{ (tfirst first (n { $1 ! { (trefine refine [ %Ra (mhole _ ) ] ) ! ) ) ~
F(mfun fun (mbasicFun (n (mhole _ ) ) (n ) => (msyntheticHole ? _ ) ) )
r%rfl
N%rfl
_(mhole _ )".splitOn "\n")
def sA(c:Char):Syntax:=(tA.lookup c).getD sJ
def sC(w:String):List Syntax:=
 let f (s:String):Syntax:=let l:=w.splitOn s;sR (sP l.head! (mp sA l.getLast!.toList))
 bif (w.splitOn "/").length==1 then[f "!"]else[sW (f "/")]
def sD(s:String):List (List Syntax):=mp sC (wd s)
def sG(s:String):List Syntax:=
 let h:=s.splitOn "#"
 let l:=h.getLast!.splitOn "="
 let f:=sF (sD l.getLast!)
 bif h.length==1 then[f]else[sW (q [sJ,sP h.head! (mp (fun _=>sA '_') l.head!.toList)] "(trefine refine < $0 $1 > )"),f]
def UQ(q:Syntax):Option Syntax:=
 if q[0][0].getNumArgs==1&&q[0][0][0].isOfKind `Lean.Parser.Tactic.rcasesPat.one then some q[0][0][0][0]else none
def UR(l:List Syntax):Syntax:=q [sZ (l.intersperse (sX ","))] "(trcasesPatLo (trcasesPatMed (n (trcasesPat.tuple ⟨ $0 ⟩ ) ) ) (n ) )"
def Qx(m h:Syntax):Syntax:=q [m,h] "(tobtain obtain (n $0 ) (n ) (n := (n $1 ) ) )"
def sY(x:List Syntax):Syntax:=q [sZ x] "(tintro intro $0 )"
def sv(x:Syntax):Syntax:=q [x] "(tsubst subst (n $0 ) )"
def US(h:Nat→Syntax)(l:List Syntax):List Syntax×List Syntax:=(l.foldr (fun q r =>
 let i:=r.1-1
 let a:=r.2.1
 let b:=r.2.2
 (i,match UQ q with
  |some x=>if x.getId==`rfl then(h i::a,sv (h i)::b)else(x::a,b)
  |none=>(h i::a,Qx q[0] (h i)::b))) (l.length,([],[]))).2
def UT(h:Nat→Syntax)(ps:List Syntax)(e:Syntax)(f:String)(k:Nat):List Syntax:=
 let(a,b):=US h (if k<ps.length then ps.take (k-1)++[UR (ps.drop (k-1))]else ps)
 sR (sP ("Lake."++f) [e,sJ])::q [e] "(tfirst first (n { (tclear clear (n $0 ) ) ! { (tskip skip ) ! ) )"::sY a::b
def ob(p e:Syntax):MacroM Syntax:=do
 let ps:=p[0][0][1].getSepArgs.toList
 let n:=ps.length
 if p[0].getNumArgs != 1||!p[0][0].isOfKind `Lean.Parser.Tactic.rcasesPat.tuple||n<2 then Macro.throwUnsupported
 let m ← Macro.addMacroScope `h
 let h (i:Nat):Syntax:=mkIdent (m.modifyBase fun b=>b.num i)
 let f (s:String) (d:Nat) (j:Nat):List Syntax:=UT h ps e (s++toString (j+1)) (j+d)
 return sF (mp (f "an" 1) ((List.range n).drop 1).reverse++mp (fun j=>f "ex" 2 (j-1)) ((List.range (min n 7)).drop 1).reverse)
def hk(ps:List Syntax):MacroM Syntax:=do
 let n:=ps.length
 let P:=q [mkIdent (← Macro.addMacroScope `P)] "(msyntheticHole ? $0 )"
 let f (s:String) (l:List Syntax):Syntax:=sP s!"Lake.{s}{n}" (P::l)
 let g:=(List.range (n-1)).foldl (fun(a:Syntax×List Syntax) _=>(q [a.1] "(mproj $0 . (kfieldIdx 2 ) )",q [a.1] "(mproj $0 . (kfieldIdx 1 ) )"::a.2)) (f "kk" [],[])
 return q [f "hk" [cl ']' .anonymous (q [mkIdent (← Macro.addMacroScope `f),f "HT" []] "< (msyntheticHole ? $0 ) $1 >"::(g.1::g.2).reverse)],sY (mp (·[0][0]) ps)] "(tparen '( { (trefine' refine' (mexplicit @ $0 ) ) $1 } ') )"
def rI(m q:Syntax):Syntax:=
 let p:=q[0]
 bif p.isOfKind `Lean.Parser.Tactic.rcasesPat.one then sY [p[0]]else
 bif p.isOfKind `Lean.Parser.Tactic.rcasesPat.ignore then sY [sA '_']else
 Jm.q [sY [m],Qx (Jm.q [p] "(trcasesPatMed (n $0 ) )") m] "(tparen '( { $0 $1 } ') )"
def wu:Syntax:=q [] "(tset_option set_option %tactic.hygienic (n ) false in { (tintros intros (n ) ) } )"
def yM(d:Name):MacroM Syntax:=
 return q [mkIdent d,mkIdent (← Macro.addMacroScope `f),mkIdent (← Macro.addMacroScope `w)] "(twithUnfoldingAll with_unfolding_all { (trefine' refine' [ < (msyntheticHole ? $1 ) [ %Ln.FW (mhole _ ) (mhole _ ) (mhole _ ) (mhole _ ) (mhole _ ) ] > (msyntheticHole ? $2 ) ] ) (tcase case (n (tcaseArg (kLean.binderIdent $2 ) (n ) ) ) => { (texact exact %Ln.w0 ) } ) (tcase case (n (tcaseArg (kLean.binderIdent $1 ) (n ) ) ) => { (texact exact (mfun fun (mbasicFun (n %w ) (n ) => < [ %Ln.ZD (mhole _ ) (mhole _ ) $0 (mhole _ ) (mhole _ ) { (kPyProof.Rows.tacticKernel_rfl! kernel_rfl! ) ~ ] [ %Ln.T %w ] > ) ) ) } ) } )"
def UU(t:Syntax):Syntax:=
 let el:=q [] "(mellipsis .. )"
 bif t.isOfKind `Lean.Parser.Term.app then t.setArg 1 (t[1].setArgs (t[1].getArgs.push el))else
 bif t.isIdent then cl ']' .anonymous [t,el]else t
def pa(t:Syntax):Syntax:=sN `Lean.Parser.Term.paren [hL,t,sX ")"]
def UW(r:Syntax):List (List Syntax):=
 let f:=bif r[0].getNumArgs==0 then "Lake.rwl" else "Lake.rwr"
 (bif (r.find? (·.isOfKind `Lean.Parser.Term.syntheticHole)).isSome then[]else[[sR (sP f [pa (UU r[1]),sJ])]])++[[q [r] "(trewriteSeq rewrite (toptConfig (n ) ) (trwRuleSeq '[ (n $0 ) '] ) (n ) )"]]
def UX(rs:List Syntax):Syntax:=
 q [sQ (mp (fun r=>sF (UW r)) rs++[q [] "(ttacticTry_ try { (twithReducible with_reducible { (ttacticRfl rfl ) } ) } )"])] "(tparen '( $0 ') )"
def cs(s:String)(a:List Syntax):List Syntax:=[q [sP s a] "(texact exact $0 )"]
def UY(x:Syntax):Syntax:=
 sF [cs "Lake.Qw" [sA 'r',x],cs "Lake.Y2" [x],cs "Lake.Y3" [x],cs "Lake.Y1" [x],[q [x] "(treplace replace (mletDecl (mletIdDecl (mletId $0 ) (n ) (n ) := [ %Option.some.inj $0 ] ) ) )",sv x],[q [pa x] "(tcases cases (n (telimTarget (n ) $0 ) ) (n ) (n ) )"]]
def te(l:List Syntax)(k t:Syntax):Syntax:=bif k.isIdent then q [sZ (l++[k]),sF [[t],[om]]] "{ (trevert revert $0 ) $1 ~" else bif l.isEmpty then q [] "{ (tdecide decide (toptConfig (n ) ) ) ~" else q [sL] "{ $0 ~"
def dc(w:String):Syntax:=q [mkIdent (.str `Lake.hd ("tw"++w))] "(kLean.Parser.Command.declaration (kLean.Parser.Command.declModifiers (n ) (n ) (n ) (n ) (n ) (n ) (n ) ) (kLean.Parser.Command.theorem theorem (kLean.Parser.Command.declId $0 (n ) ) (kLean.Parser.Command.declSig (n ) (mtypeSpec : (mforall ∀ (n %p ) (n (mtypeSpec : (mprop Prop ) ) ) , (marrow %p → %p ) ) ) ) (kLean.Parser.Command.declValSimple := (mfun fun (mbasicFun (n (mhole _ ) %h ) (n ) => %h ) ) (kLean.Parser.Termination.suffix (n ) (n ) ) (n ) ) ) )"
def dm(s:String):Syntax:=sZ (dc "8196750494803667665"::mp (fun x=>let l:=wd x;sZ (mp (fun y=>let z:=y.splitOn ",";sZ (mp (fun i=>dc (toString (Name.str `Lake.hd (l.head!++toString i)).hash)) (List.range' z.head!.toNat! z.getLast!.toNat!))) l.tail)) (s.splitOn "|"))
def fe(s:String):Syntax:=
 let l:=s.splitOn "|"
 let h:=wd l.head!
 let ns:=wd l.getLast!
 q [mkIdent ("CallT."++h.head!).toName,sZ ((mp (fun w=>(Syntax.mkStrLit w).raw) ns).intersperse (sX ",")),bif (h.getD 1 "")=="te" then q [] "(manonymousCtor ⟨ (n %true , %ep.Q ) ⟩ )" else mkIdent (h.getD 1 "").toName,sP ("bind"++toString ns.length) [],sZ (mp (fun _=>sA '_') ns),q [] "(trwSeq rw (toptConfig (n ) ) (trwRuleSeq '[ (n (trwRule (n ) %pr.K ) ) '] ) (n ) )",q [] "{ (tdecide decide (toptConfig (n ) ) ) ~",q [sL] "{ $0 ~",bif h.length==3 then q [] "{ (tdecide decide (toptConfig (n ) ) ) ~" else q [sL] "{ $0 ~"] "(trefine refine [ $0 (mnamedArgument '( %names := (k«term[_]» '[ $1 '] ) ') ) (mnamedArgument '( %ep := $2 ') ) { $5 (ttacticRfl rfl ) ~ %rfl { $5 (ktacticKernel_rfl kernel_rfl ) ~ (mfun fun (mbasicFun (n %vs %hl ) (n ) => [ $3 %hl (mfun fun (mbasicFun $4 (n ) => %rfl ) ) ] ) ) %rfl $6 $7 $8 (msyntheticHole ? _ ) ] )"
def ar(s:String):Syntax:=q [sL,q [] "(tdecide decide (toptConfig (n ) ) )",q [] "(ttacticRfl rfl )"] ("{ "++s++" }")
def a0:Syntax:=ar "$2"
def a1:Syntax:=ar "$1"
def a2:Syntax:=ar "$0"
def a3:Syntax:=ar "(tintro intro (n (mhole _ ) ) ) $2"
def a4:Syntax:=ar "(tintros intros (n ) ) $2"
def a5:Syntax:=ar "(tintro intro (n %x ) ) (tcases cases (n (telimTarget (n ) %x ) ) (n ) (n ) )"
def a6:Syntax:=ar "(tdecide decide (toptConfig (n (tconfigItem (tposConfigItem + %kernel ) ) ) ) )"
end Jm
open PySem PySem.W PySem.Calls PyProof.Rows
open List (mem_cons forIn_cons mem_filter mem_append length_nil mem_append_right mem_cons_self mem_append_left any_cons length_cons map_map lookup_cons nodup_cons map_cons mem_map_of_mem mem_singleton all_eq_true mem_map length_map mem_cons_of_mem length_append replicate_succ length_eq_zero_iff filter_cons mem_of_getElem? take_length take_zero nodup_nil drop_zero take_of_length_le map_congr_left nil_append contains_iff_mem eq_nil_of_length_eq_zero map_append length_take filter_append append_nil nodup_append countP_append countP_cons any_eq_true length_drop length_replicate drop_eq_getElem_cons take_append_drop append_assoc)
namespace Lake
noncomputable abbrev aM:=@PySem.wpAny_bind
noncomputable abbrev cA:=@PySem.wpAny_pure
noncomputable abbrev er:=@PySem.wpAny_of_eq
noncomputable abbrev rx:=@PySem.wpAny_holding
noncomputable abbrev DW:=@PySem.wpAny_attempt
noncomputable abbrev aY:=@if_neg
noncomputable abbrev bh:=@if_pos
noncomputable abbrev bB:=@length_map
noncomputable abbrev bZ:=@map_append
noncomputable abbrev eF:=@mem_of_getElem?
noncomputable abbrev gb:=@mem_cons_of_mem
noncomputable abbrev ik:=@mem_append_left
noncomputable abbrev il:=@mem_append_right
noncomputable abbrev gQ:=@mem_cons_self
noncomputable abbrev iw:=@builtinLookup_eq_fast
noncomputable abbrev fF:=@typeLookup_type
noncomputable abbrev cX:=@bm_if_false
noncomputable abbrev dH:=@sizeLine_eq
noncomputable abbrev dv:=@length_append
noncomputable abbrev ia:=@decide_eq_true
noncomputable abbrev jx:=@decide_eq_false
noncomputable abbrev iL:=@isSubtype_type
noncomputable abbrev mX:=@eq_nil_of_length_eq_zero
noncomputable abbrev mY:=@drop_eq_getElem_cons
noncomputable abbrev gq:=@append_assoc
noncomputable abbrev i3:=@mem_map_of_mem
noncomputable abbrev gH:=@length_cons
noncomputable abbrev ib:=@take_length
noncomputable abbrev i4:=@wpAny_specialOf
noncomputable abbrev lu:=@of_decide_eq_true
noncomputable abbrev jy:=@Nat.le_of_ble_eq_true
noncomputable abbrev wi:=@Int.natCast_nonneg
noncomputable abbrev eO:=@Heap.get?_push_size
noncomputable abbrev fb:=@Heap.get?_push_of_some
noncomputable abbrev jz:=@Heap.get?_none_of_le
noncomputable abbrev mZ:=@Heap.get?_update_self
noncomputable abbrev lz:=@Heap.SameBut.update
noncomputable abbrev jW:=@wpAny_field
noncomputable abbrev wj:=@wpAny_setField
noncomputable abbrev jA:=@Bool.and_eq_true
noncomputable abbrev mw:=@Bool.false_ne_true
noncomputable abbrev fg:=@Nat.le_refl
noncomputable abbrev fh:=@Int.le_refl
noncomputable abbrev ew:=@map_cons
noncomputable abbrev ey:=@map_map
noncomputable abbrev iM:=@length_take
noncomputable abbrev m7:=@take_append_drop
noncomputable abbrev rA:=@Classical.byContradiction
noncomputable abbrev oR:=@take_of_length_le
noncomputable abbrev lA:=@nodup_append
noncomputable abbrev m8:=@replicate_succ
noncomputable abbrev kq:=@Heap.lt_size
noncomputable abbrev qf:=@Bool.false_eq_true
noncomputable abbrev m9:=@Nat.ne_of_lt
noncomputable abbrev rB:=@Int.toNat_natCast
noncomputable abbrev rC:=@length_replicate
noncomputable abbrev iN:=@typeIs_bytes
noncomputable abbrev qg:=@Int.le_trans
noncomputable abbrev oS:=@Int.add_zero
noncomputable abbrev qh:=@Nat.succ.inj
noncomputable abbrev lB:=@Nat.zero_le
noncomputable abbrev ng:=@append_nil
noncomputable abbrev oU:=@filter_cons
noncomputable abbrev oV:=@length_drop
noncomputable abbrev ku:=@wpAny_load
noncomputable abbrev rD:=@wpAny_newObj_type
noncomputable abbrev rE:=@entryFor_of_tree
abbrev aG:=PySem.Shared
abbrev bW:=List (Int×List UInt8)
abbrev bc:=List UInt8
abbrev bN:=PySem.Value→PySem.Shared→Prop
theorem dE{α:Type _}{a b:α}(h:a∈[b]):a=b:=List.mem_singleton.mp h
theorem eG{α:Type _}{a:α}{s t:List α}(h:a∈s++t):a∈s∨a∈t:=List.mem_append.mp h
theorem eb{α:Type _}{a b:α}{l:List α}(h:a∈b::l):a=b∨a∈l:=List.mem_cons.mp h
theorem gB{α β:Type _}{f:α→β}{b:β}{l:List α}(h:b∈l.map f):∃a,a∈l∧f a=b:=List.mem_map.mp h
end Lake
open Lake (aM cA er rx DW dE eG eb gB aY bh bB bZ eF gb ik il gQ iw fF cX dH dv ia jx iL mX mY gq i3 gH ib i4 lu jy wi eO fb jz mZ lz jW wj jA mw fg fh ew ey iM m7 rA oR lA m8 kq qf m9 rB rC iN qg oS qh lB ng oU oV ku rD rE aG bW bc bN)
local macro_rules |`(tactic| obtain $p:rcasesPatMed:=$e:term)=>Jm.ob p e
local macro_rules |`(tactic| rintro $ps* : (_))=>Jm.hk (Jm.mp (·.raw) ps.toList)
open Lean in
local macro_rules |`(tactic| rintro $ps* : _)=>do
 let m ← Macro.addMacroScope `h
 return Jm.q [Jm.sQ (Jm.mp (fun p=>Jm.rI (mkIdent m) p.raw) ps.toList)] "(tparen '( $0 ') )"
open Lean in
local macro_rules |`(tactic| room)=>do
 return Jm.sF [[← Jm.yM `Ln.d1],[Jm.om]]
open Lean in
local macro_rules |`(tactic| kt_len)=>do
 return Jm.sF [[← Jm.yM `Ln.d3],[Jm.om]]
local macro_rules |`(tactic| rw[$rs,*])=>return Jm.UX (Jm.mp (·.raw) rs.getElems.toList)
local macro_rules |`(tactic| cases $x:ident)=>return Jm.UY x
local macro_rules |`(tactic| show $t:term)=>return Jm.q [Jm.sJ,t] "(trefine refine < $0 $1 > )"
local macro_rules |`(tactic| nomatch $a,$b)=>return Jm.sF [Jm.cs "Lake.Qw" [a,b],Jm.cs "Lake.U0" [a,b,Jm.sA 'r'],[Jm.q [a,b] "(trwSeq rw (toptConfig (n ) ) (trwRuleSeq '[ (n (trwRule (n ) $0 ) ) '] ) (n (tlocation at (tlocationHyp (n $1 ) ) ) ) )",Jm.q [b] "(tcases cases (n (telimTarget (n ) $0 ) ) (n ) (n ) )"]]
open Lean in
local macro_rules |`(tactic| exists $ts,*)=>do
 return Jm.q [Jm.sZ (Jm.mp (·.raw) ts.getElems.toList),Jm.sF [[← Jm.yM `Ln.d1],[Jm.om]]] "(tparen '( { (trevert revert $0 ) $1 } ') )"
local macro_rules |`(tactic| law_purse 0=>$t)=>return Jm.q [t] "(tparen '( { (tapply apply %Lake.zz ) (tsimp simp (toptConfig (n ) ) (n (tdischarger '( (kpatternIgnore (ktoken.discharger discharger ) ) := { (twithUnfoldingAll with_unfolding_all $0 ) } ') ) ) (n only ) (n '[ (n (tsimpLemma (n (tsimpPre ↓ ) ) (n ) %Lake.zy ) ) '] ) (n ) ) } ') )"
local macro_rules |`(tactic| w_up)=>return Jm.wu
local macro_rules |`(tactic| k_in)=>return Jm.q [] "(ktacticKernel_rfl kernel_rfl )"
open Lean in
local macro_rules |`(%[$ts,*|$k])=>do
 return Jm.te (Jm.mp (·.raw) ts.getElems.toList) k (← Jm.yM `Ln.d1)
variable {p iO p1:Pos}{x name qn:Str}{k i dp cnt:Nat}{a C L it:Addr}{α β:Type}{R:Result→Lake.aG→Prop}{A:Around}{E:Lake.bN}{s s' s₀ aj:Lake.aG}{f w kV doc pm cd ct dV:Value}{kw binds:List (Str×Value)}{id:String}{m:Str→Option Value}{elts aW ts values ifs:List Expr}{func o bJ e iP kx aB bK:Expr}{pl:Sem Bool}{aq:Program}{op:Value→Value→Sem Value}{rs:List (Sem Value)}{names:List Str}{aZ:List Stmt}{au old:Int→Lake.bc}{keys:List (Option Expr)}{ws:List Value}{h' h₀:Heap}{P' own its:List Addr}{n ay af:Int}{aa:Env}{fo:Obj}{scope:Scope}{ns ab:List Int}{ps:Arguments}{sn:List (Str×NameKind)}{an:Option Addr}{more:List (Str×Const)}{cells dO:List (Str×Addr)}{XP:(Str→Option Value)→Heap→Prop}
section
namespace Lake
noncomputable def yp(id:String):Bool:=
 id=="bytearray.__contains__"||id=="bytearray.__mod__"||id=="bytearray.__rmod__"||id=="_struct.pack_into.held"||id=="bytearray.find.held"||Builtin.Bytes.decodersThatHold.contains id
noncomputable def pC:Code→Bool
 |.builtin id _=>yp id
 |_=>false
noncomputable def pD(l:List (Code×Pos)):Prop:=∀x∈l,pC x.1=false
theorem pD.cons{c:Code}{l:List (Code×Pos)}(hc:pC c=false)(h:pD l):pD ((c,p)::l):=fun x hx=>by
 rcases eb hx with rfl|hx
 ·exact hc
 exact h x hx
noncomputable def wpAny{α:Type}(M:Model)(A:Around)(s:aG)(E:bN)(t:Sem α)(Q:α→aG→Prop):Prop:=
 ∀(Γ:PySem.Ctx) p,Γ.In A→pC Γ.code=false→pD Γ.below→Sem.wp M Γ t (fun a _ s'=>Q a s') (fun e _ s'=>E e s') p s
noncomputable def bw(M:Model)(A:Around)(c:Code)(R:Result→aG→Prop)(s:aG):Prop:=
 ∀(Γ:PySem.Ctx) p,Γ.code=c→Γ.Below A→pD Γ.below→wpCode M Γ R p s
section
variable {α β:Type}{M:Model}{A:Around}{E E':bN}{s:aG}
theorem aD{t:Sem α}{Q:α→aG→Prop}(h:PySem.wpAny M A t Q E s):wpAny M A s E t Q:=fun Γ p Lj _ _=>h Γ p Lj
theorem Cd{c:Code}(h:PySem.codeAny M A c R s):bw M A c R s:=fun Γ p hc Lj _=>h Γ p hc Lj
theorem ao{α:Type}{a:α}{s:aG}{M:Model}{A:Around}{E:bN}{Q:α→aG→Prop}(h:Q a s):wpAny M A s E (pure a) Q:=fun _ _ _ _ _=>h
theorem fK{tag:String}{Q:Unit→aG→Prop}(h:Q () s):wpAny M A s E (rule tag) Q:=fun _ _ _ _ _=>h
theorem dW{ai:Pos}{Q:Unit→aG→Prop}(h:Q () s):wpAny M A s E (standAt ai) Q:=fun _ _ _ _ _=>h
theorem oW{Q:Unit→aG→Prop}(h:Q () s):wpAny M A s E point Q:=fun _ _ _ _ _=>h
theorem cM{M:Model}{A:Around}{E:bN}{s:aG}{α:Type}{a:α}{t:Sem α}{Q:α→aG→Prop}(e:t=pure a)(h:Q a s):wpAny M A s E t Q:=by rw[e];exact ao h
theorem aL{t:Sem α}{Q Q':α→aG→Prop}(h:wpAny M A s E t Q)(hQ:∀a s,Q a s→Q' a s)(hE:∀e s,E e s→E' e s):wpAny M A s E' t Q':=
 fun Γ p i c b=>Sem.wp_mono M Γ t (fun a _ s'=>hQ a s') (fun e _ s'=>hE e s') p s (h Γ p i c b)
theorem ak{β α:Type}{Q:β→aG→Prop}{M:Model}{E:bN}{A:Around}{s:aG}{f:α→Sem β}{m:Sem α}(h:wpAny M A s E m (fun a s'=>wpAny M A s' E (f a) Q)):wpAny M A s E (m >>= f) Q:=by
 intro Γ p i c b
 rw[Sem.wp_bind']
 exact Sem.wp_mono M Γ m (fun _ p' _ k=>k Γ p' i c b) (fun _ _ _ k=>k) p s (h Γ p i c b)
theorem seq{β α:Type}{Q:β→aG→Prop}{M:Model}{A:Around}{E:bN}{s:aG}{m:Sem α}{f:α→Sem β}{R:α→aG→Prop}(h:wpAny M A s E m R)(k:∀a s',R a s'→wpAny M A s' E (f a) Q):wpAny M A s E (m >>= f) Q:=
 ak (aL h k fun _ _ e=>e)
theorem bo{vs:List Value}{m:Sem α}{Q:α→aG→Prop}(h:wpAny M A s E m Q):wpAny M A s E (holding vs m) Q:=by
 intro Γ p i c b
 rw[Sem.wp_holding]
 exact h Γ p i c b
theorem Ce{vs:List Value}{m:Sem α}{Q:α→aG→Prop}(h:wpAny M A s E m Q):wpAny M A s E (m.keep vs) Q:=by
 intro Γ p i c b
 rw[Sem.wp_keep]
 exact h Γ p i c b
theorem dw{α:Type}{s:aG}{vs:List Value}{β:Type}{Q:β→aG→Prop}{M:Model}{A:Around}{E:bN}{m:Sem α}{f:α→Sem β}{R:α→aG→Prop}(h:wpAny M A s E m R)(k:∀a s',R a s'→wpAny M A s' E (f a) Q):wpAny M A s E (holding vs m >>= f) Q:=
 seq (bo h) k
theorem b9{β:Type}{s:aG}{A:Around}{E:bN}{M:Model}{ai:Pos}{Q:β→aG→Prop}{f:Unit→Sem β}(h:wpAny M A s E (f ()) Q):wpAny M A s E (standAt ai >>= f) Q:=ak (dW h)
theorem known{β α:Type}{Q:β→aG→Prop}{M:Model}{A:Around}{E:bN}{s:aG}{f:α→Sem β}{a:α}(h:wpAny M A s E (f a) Q):wpAny M A s E (pure a >>= f) Q:=ak (ao h)
theorem qi{tag:String}{f:Unit→Sem β}{Q:β→aG→Prop}(h:wpAny M A s E (f ()) Q):wpAny M A s E (rule tag >>= f) Q:=ak (fK h)
theorem leaf{β α:Type}{s:aG}{M:Model}{A:Around}{E:bN}{Q:β→aG→Prop}{m:Sem α}{f:α→Sem β}(h:PySem.wpAny M A m (fun a s'=>wpAny M A s' E (f a) Q) E s):wpAny M A s E (m >>= f) Q:=ak (aD h)
theorem fY{m:Sem α}{k:Value→Sem Unit}{Q:α→aG→Prop}(h:wpAny M A s (fun e s'=>wpAny M A s' E (k e) (fun _ bQ=>E e bQ)) m Q):wpAny M A s E (m.onRaise k) Q:=by
 intro Γ p i c b
 rw[Sem.wp_onRaise]
 exact Sem.wp_mono M Γ m (fun _ _ _ q=>q) (fun _ p' _ q=>q Γ p' i c b) p s (h Γ p i c b)
theorem jQ{m:Sem α}{Q:Except Value α→aG→Prop}(h:wpAny M A s (fun e=>Q (.error e)) m (fun a=>Q (.ok a))):wpAny M A s E m.attempt Q:=by
 intro Γ p i c b
 rw[Sem.wp_attempt]
 exact h Γ p i c b
theorem l9{c:Prop}[Decidable c]{a b:Sem α}{Q:α→aG→Prop}(h:if c then wpAny M A s E a Q else wpAny M A s E b Q):wpAny M A s E (if c then a else b) Q:=by
 by_cases z:c
 ·simp only[z,if_true]at h ⊢;exact h
 simp only[z,if_false]at h ⊢;exact h
theorem ed{c:Prop}[Decidable c]{a b:Sem α}{Q:α→aG→Prop}(ha:c→wpAny M A s E a Q)(hb:¬c→wpAny M A s E b Q):wpAny M A s E (if c then a else b) Q:=by
 split
 ·exact ha ‹_›
 exact hb ‹_›
theorem dR{c:Code}{R':Result→aG→Prop}(h:bw M A c R s)(hR:∀r s,R r s→R' r s):bw M A c R' s:=
 fun Γ p e i b=>wpCode_mono hR (h Γ p e i b)
theorem xj{c:Code}{h:Option Value}{Q:Flow→aG→Prop}(hc:bw M (A.mark h) c (fun r s'=>match r with|.ok f=>Q f s'|.error e=>E e s') s)(DX:autoParam (h≠some byPass) Jm.a5) :
  wpAny M A s E (run c h) Q:=by
 intro Γ p i z b
 rw[Sem.wp_run]
 exact hc _ p rfl (i.enter c h p DX) (.cons z b)
theorem wm{c:Code}{Q:bN}(hc:bw M A c (fun r s'=>match r with|.ok (.ret v)=>Q v s'|.ok _=>False|.error e=>E e s') s):wpAny M A s E (runValue c) Q:=by
 intro Γ p i z b
 rw[Sem.wp_runValue]
 exact hc _ p rfl (i.enter c none p (by intro x;cases x)) (.cons z b)
theorem dz{ai:List Value}{Q:bN}
 (hc:bw M A (.call f ⟨ai,kw⟩) (fun r s'=>match r with|.ok (.ret v)=>Q v s'|.ok _=>False|.error e=>E e s') s):wpAny M A s E (call f ai kw) Q:=wm hc
noncomputable abbrev Cf(M:Model)(A:Around)(R:Result→aG→Prop):Fin→aG→Prop:=
 fun fin s'=>match fin with|.done f=>R (.ok f) s'|.again c'=>c'.quiet=true∧bw M A c' R s'
theorem bU{c:Code}(hl:pC c=false)(h:wpAny M (A.under c) s (fun e s'=>R (.error e) s') (M.den c) (Cf M A R)):bw M A c R s:=by
 intro Γ p e i b
 subst e
 rw[wpCode_iff_wp]
 refine Sem.wp_mono M Γ _ (fun fin p' s' k=>?_) (fun _ _ _ k=>k) p s (h Γ p i.in hl b)
 cases fin with
 |done f=>exact k
 |again c'=>exact⟨k.1,k.2 (Γ.goto c') p' rfl (i.goto c') b⟩
theorem qV{c:Code}(hq:c.quiet=true)(hl:pC c=false)(I:Nat→aG→Prop)
 (turn:∀n s,I n s→wpAny M (A.under c) s (fun e s'=>R (.error e) s') (M.den c) (fun fin s'=>match fin with
    |.done f=>R (.ok f) s'
    |.again c'=>(c'=c∧∃m,m<n∧I m s')∨(c'.quiet=true∧bw M A c' R s')))
 (n:Nat)(h:I n s):bw M A c R s:=by
 induction n using Nat.strongRecOn generalizing s with
 |ind n ih =>
 refine bU hl (aL (turn n s h) (fun fin s' k=>?_) fun _ _ k=>k)
 cases fin with
 |done _=>exact k
 |again _ =>
  rcases k with k|k
  ·obtain⟨e,m,lt,hm⟩:=k;subst e;exact⟨hq,ih m lt hm⟩
  exact k
theorem yN{c:Code}(hq:c.quiet=true)(hl:pC c=false)(I:Nat→aG→Prop)
 (turn:∀n s,I n s→wpAny M (A.under c) s (fun e s'=>R (.error e) s') (M.den c) (fun fin s'=>match fin with|.done f=>R (.ok f) s'|.again c'=>c'=c∧∃m,m<n∧I m s'))
 (n:Nat)(h:I n s):bw M A c R s:=
 qV hq hl I (fun n s hI=>aL (turn n s hI) (fun fin s' k=>by cases fin with|done f=>exact k|again c'=>exact .inl k) fun _ _ k=>k) n h
theorem GJ(h:yp id=false):id≠"bytearray.__contains__"∧id≠"bytearray.__mod__"∧id≠"bytearray.__rmod__"∧id≠"_struct.pack_into.held"∧id≠"bytearray.find.held"∧Builtin.Bytes.decodersThatHold.contains id=false:=
 have h:=Bool.or_eq_false_iff.mp h
 have h1:=Bool.or_eq_false_iff.mp h.1
 have h2:=Bool.or_eq_false_iff.mp h1.1
 have h3:=Bool.or_eq_false_iff.mp h2.1
 have h4:=Bool.or_eq_false_iff.mp h3.1
 ⟨ne_of_beq_false h4.1,ne_of_beq_false h4.2,ne_of_beq_false h3.2,ne_of_beq_false h2.2,ne_of_beq_false h1.2,h.2⟩
theorem DY{p:Prop}[Decidable p]{t:p→Bool}{e:¬p→Bool}(h:¬p)(k:¬e h=true):¬dite p t e=true:=fun z=>k ((dif_neg h).symm.trans z)
theorem wo{v:Value}{Q:Bool→aG→Prop}(h:Q false s):wpAny M A s E (Builtin.Bytes.exported v) Q:=by
 intro Γ p i z b
 unfold Builtin.Bytes.exported
 rw[Sem.wp_bind']
 have st:∀b,b=false→Q b s:=fun _ e=>e▸h
 have hl:=pD.cons (p:=p) z b
 refine st _ (List.any_eq_false.mpr ?_)
 intro x hx
 have hc:=hl _ hx
 clear hx hl st h
 cases x with|mk c q =>
 cases c with
 |builtin id az =>
  have hd:=GJ hc;cases az with|mk ai kw =>
  delta PySem.Builtin.Bytes.exported.match_1
  show ¬(dite (id="bytearray.__contains__") _ _=true);refine DY hd.1 (DY hd.2.1 (DY hd.2.2.1 (DY hd.2.2.2.1 (DY hd.2.2.2.2.1 ?_))));cases ai with
  |nil=>exact mw
  |cons w r =>
   show ¬((_&&List.contains _ id)=true);rw[hd.2.2.2.2.2,Bool.and_false];exact mw
 |_=>exact mw
end
section
variable {α β:Type}{M:Model}{A:Around}{E:bN}{s:aG}{aa:Env}
noncomputable def cE(M:Model)(A:Around)(aa:Env)(E:bN)(x:Value)(s':aG):Prop:=wpAny M A s' E (noteFrame x aa) (fun _ bQ=>E x bQ)
noncomputable def fL(M:Model)(A:Around)(aa:Env)(E:bN)(x:Value)(s':aG):Prop:=
 wpAny M A s' E (do
  if(← field x 1)==.none then unsupported "frame.own-activation:exception-without-traceback"
  setFlight x aa.frame) (fun _ bQ=>E x bQ)
theorem gX{vs:List Value}{m:Sem Value}{Q:bN}(h:wpAny M A s E m Q):wpAny M A s E (operate vs m) Q:=by
 intro Γ p i c b
 rw[Sem.wp_operate]
 exact h Γ p i c b
theorem GK{vs:List Value}{m:Sem Value}{f:Value→Sem β}{R:bN}{Q:β→aG→Prop}(h:wpAny M A s E m R)(k:∀a s',R a s'→wpAny M A s' E (f a) Q):wpAny M A s E (operate vs m >>= f) Q:=
 seq (gX h) k
theorem rel{vs keep:List Value}{f:Unit→Sem β}{Q:β→aG→Prop}(h:wpAny M A s E (f ()) Q):wpAny M A s E (release vs keep >>= f) Q:=leaf (wpAny_release' h)
theorem lC{v:Value}{Q:Unit→aG→Prop}(h:wpAny M A s E (storeName aa x v) Q):wpAny M A s E (bindName aa x v) Q:=by
 intro Γ p i c b
 rw[Sem.wp_bindName]
 exact h Γ p i c b
theorem jI{m:Sem α}{Q:α→aG→Prop}(h:wpAny M A s (cE M A aa E) m Q):wpAny M A s E (m.onRaise fun x=>do noteFrame x aa;theTreesLotGoes x) Q:=
 fY (aL h (fun _ _ q=>q) fun _ _ q=>seq q fun _ _ e=>aD (wpAny_theTreesLotGoes e))
theorem xY{m:Sem α}{ai:Pos}{Q:α→aG→Prop}(h:wpAny M A s (cE M A aa E) m Q):wpAny M A s E (m.onRaise fun x=>do noteFrame x aa;standAt ai) Q:=
 fY (aL h (fun _ _ q=>q) fun _ _ q=>seq q fun _ _ e=>dW e)
theorem nh{c:Code}{h:Option Value}{Q:Flow→aG→Prop}(hc:bw M (A.mark h) c (fun r s'=>match r with|.ok f=>Q f s'|.error e=>fL M A aa E e s') s)
 (DX:autoParam (h≠some byPass) Jm.a5):wpAny M A s E (runOwn c aa h) Q:=fY (xj hc DX)
theorem gR{α:Type}{M:Model}{A:Around}{E:bN}{Q:α→aG→Prop}{s:aG}{c:Bool}(hc:c=false){a b:Sem α}(h:wpAny M A s E b Q):wpAny M A s E (if c=true then a else b) Q:=by
 subst hc
 exact h
theorem yO{c:Bool}{a b:Sem α}{Q:α→aG→Prop}(hc:c=true)(h:wpAny M A s E a Q):wpAny M A s E (if c=true then a else b) Q:=by
 subst hc
 exact h
theorem AV{l op r ai}{Q:bN}(h:wpAny M A s E (eval l aa) (fun a aj=>wpAny M A aj E (eval r aa) (fun b aO=>wpAny M A aO E (binaryOp op a b) Q))) :
  wpAny M A s E (eval (.BinOp l op r ai) aa) Q:=by
 rw[eval_BinOp]
 exact seq h fun _ _ k=>dw k fun _ _ k=>b9 (gX k)
theorem wx{l op r ai}{Q:bN}(h:wpAny M A s E (eval l aa) (fun a aj=>wpAny M A aj E (eval r aa) (fun b aO=>wpAny M A aO E (compareOp op a b) Q)))
 (hm:autoParam (behindInMarks op r=false) Jm.a2):wpAny M A s E (eval (.Compare l [op] [r] ai) aa) Q:=by
 rw[eval_Compare1,markedBehindIn_of_false hm]
 exact seq h fun _ _ k=>dw k fun _ _ k=>b9 (gX k)
theorem pE{l op r ai whole}{Q:Bool→aG→Prop}
 (h:wpAny M A s E (eval l aa) (fun a aj=>wpAny M A aj E (eval r aa) (fun b aO=>wpAny M A aO E (compareOp op a b) (fun c bI=>wpAny M A bI E (truthy c) Q))))
 (hm:autoParam (behindInMarks op r=false) Jm.a2):wpAny M A s E (isTrue (.Compare l [op] [r] ai) aa whole) Q:=by
 rw[isTrue_Compare1,markedBehindIn_of_false hm]
 exact seq h fun _ _ k=>dw k fun _ _ k=>b9 (GK k fun _ _ k=>bo k)
theorem AW{lower upper step:Option Expr}{Q:bN}
 (h:wpAny M A s E (evalPart lower aa) (fun l aj=>wpAny M A aj E (evalPart upper aa) (fun u aO=>wpAny M A aO E (evalPart step aa) (fun st bI =>
   Q (.ref bI.heap.objs.size) {bI with heap:=bI.heap.push {cls:=.type "slice",data:=.fields #[l,u,st]}})))) :
  wpAny M A s E (eval (.Slice lower upper step p) aa) Q:=by
 rw[arm_eval_Slice]
 exact seq h fun _ _ k=>dw k fun _ _ k=>dw k fun _ _ k=>aD (rD k)
theorem Lk{ai:Pos}{Q:bN}(h:wpAny M A s E (spliced (backTo ai (starEach elts aa))) (fun vs aj=>wpAny M A aj E (newTuple vs) Q)) :
  wpAny M A s E (eval (.Tuple elts k ai) aa) Q:=b9 (f:=fun _=>do newTuple (← spliced (backTo ai (starEach elts aa)))) (ak h)
theorem OM{ai:Pos}{Q:bN}(h:wpAny M A s E (spliced (backTo ai (starEach elts aa))) (fun vs aj=>wpAny M A aj E (newList vs) Q)) :
  wpAny M A s E (eval (.List elts ai) aa) Q:=b9 (f:=fun _=>do newList (← spliced (backTo ai (starEach elts aa)))) (ak h)
theorem Cg{bJ slice ai}{Q:bN}(h:wpAny M A s E (eval bJ aa) (fun o aj=>wpAny M A aj E (eval slice aa) (fun i aO=>wpAny M A aO E (subscriptTail bJ slice o i) Q))) :
  wpAny M A s E (eval (.Subscript bJ slice ai) aa) Q:=by
 rw[eval_Subscript]
 exact seq h fun _ _ k=>dw k fun _ _ k=>b9 k
theorem Ll{test aZ orelse ai}{Q:bN}
 (h:wpAny M A s E (isTrue test aa (eval test aa)) (fun c aO=>if c then wpAny M A aO E (eval aZ aa) Q else wpAny M A aO E (eval orelse aa) Q)):wpAny M A s E (eval (.IfExp test aZ orelse ai) aa) Q:=by
 rw[eval_IfExp]
 exact seq h fun c _ k=>l9 k
theorem yq{az:List Expr}{ai:Pos}{Q:bN}
 (h:wpAny M A s E (eval func aa) (fun f aj=>wpAny M A aj E (callWith ai f [] (backTo ai (starEach az aa)) []) Q))
 (he:autoParam (eval (.Call func az [] ai) aa=(do callWith ai (← eval func aa) [] (backTo ai (starEach az aa)) (backToKw ai (keywordEach [] aa)))) Jm.a0) :
  wpAny M A s E (eval (.Call func az [] ai) aa) Q:=he▸ak h
theorem tM{apos ai:Pos}{az:List Expr}{Q:bN}
 (h:wpAny M A s E (eval o aa) (fun ov aj=>wpAny M A aj E (getMethod ov name pl) (fun fx aO=>wpAny M A aO E (callWith ai fx.1 fx.2 (backTo ai (starEach az aa)) []) Q)))
 (he:autoParam (eval (.Call (.Attribute o name apos) az [] ai) aa=(do
   let ov ← eval o aa
   standAt apos.atName
   let(f,first) ← holding [ov] (getMethod ov name pl)
   callWith ai f first (backTo ai (starEach az aa)) [])) Jm.a0):wpAny M A s E (eval (.Call (.Attribute o name apos) az [] ai) aa) Q:=by
 rw[he]
 exact seq h fun _ _ k=>b9 (dw k fun _ _ k=>k)
theorem wy{w:World}{attr:Str}{ai:Pos}{Q:bN}
 (h:wpAny (model aq w) A s E (eval bJ aa) (fun o aj=>wpAny (model aq w) A aj E (getAttr o attr true) Q))
 (he:autoParam (eval (.Attribute bJ attr ai) aa=(do
   let o ← eval bJ aa
   standAt ai.atName
   let r ← holding [o] (getAttr o attr true)
   letTemporaryGo bJ o r
   pure r)) Jm.a2):wpAny (model aq w) A s E (eval (.Attribute bJ attr ai) aa) Q:=by
 rw[he]
 exact seq h fun _ _ k=>b9 (dw k fun _ _ k=>leaf (wpAny_letTemporaryGo (ao k)))
theorem lD{x:Sem Value}{aW:List (Bool×Sem Value)}{Q:Args→aG→Prop}(h:wpAny M A s E (spliced ((false,x)::aW)) (fun vs s'=>Q ⟨vs,[]⟩ s')) :
  wpAny M A s E (evalArgs f true ((false,x)::aW) []) Q:=by
 unfold evalArgs
 exact seq (m:=spliced ((false,x)::aW)) h fun _ _ k=>bo (known (known (ao k)))
theorem wz{k v:Sem Value}{aW:List (Sem Value×Sem Value)}{Q:List (Value×Value)→aG→Prop}
 (h:wpAny M A s E k (fun kv aj=>wpAny M A aj E v (fun vv aO=>wpAny M A aO E (evalPairs aW) (fun vs bI=>Q ((kv,vv)::vs) bI)))):wpAny M A s E (evalPairs ((k,v)::aW)) Q:=by
 rw[evalPairs]
 exact seq h fun _ _ k=>dw k fun _ _ k=>dw k fun _ _ k=>ao k
theorem lT{ai:Pos}{first:List Value}{P:Heap→Prop}{az:List (Bool×Sem Value)}{keywords:List (Option Str×Sem Value)}{Q:bN}
 (Lm:(az.any (·.1)||keywords.any (·.1.isNone))=false)
 (hk:∀h,P h→∃k,(k=Keeper.frame∨k=Keeper.machine∨k=Keeper.boundFrame)∧Looks M h (keeperOf f) k)
 (h:wpAny M A s E (evalArgs f true az keywords) (fun a aj=>P aj.heap∧wpAny M A aj E (call f (first++a.pos) a.kw) Q)):wpAny M A s E (callWith ai f first az keywords) Q:=by
 unfold callWith
 refine dw h fun a aj aN=>b9 ?_
 obtain⟨k,yP,L⟩:=hk _ aN.1
 rw[Lm]
 refine leaf (L.here ?_)
 have end_:∀t:Sem Value,wpAny M A aj E t Q→wpAny M A aj E (t >>= fun r=>holding [r] point >>= fun _=>pure r) Q:=fun _ ht=>seq ht fun _ _ k=>dw (oW k) fun _ _ k=>ao k
 have Qy:∀mk:Value,wpAny M A aj E (callMarked mk f (first++a.pos) a.kw) Q:=fun _=>Ce aN.2
 rcases yP with rfl|rfl|rfl
 ·exact ed (c:=az.length+2*keywords.length>30) (fun _=>end_ _ aN.2) fun _=>end_ _ (Qy _)
 ·exact end_ _ aN.2
 exact ed (c:=az.length+2*keywords.length>30) (fun _=>end_ _ aN.2) fun _=>end_ _ (Qy _)
theorem xZ{l eP eQ ops bD cJ rs ai}{Q:bN}
 (h:wpAny M A s E (eval l aa) (fun a aj=>wpAny M A aj E (compareChain ai a (eP::eQ::ops) (eval bD aa::eval cJ aa::evalEach rs aa)) Q))
 (hm:autoParam (lastMarks (eP::eQ::ops) (bD::cJ::rs)=false) Jm.a2):wpAny M A s E (eval (.Compare l (eP::eQ::ops) (bD::cJ::rs) ai) aa) Q:=by
 have e:=markedEach_of_false (eP::eQ::ops) (bD::cJ::rs) (evalEach (bD::cJ::rs) aa) hm
 show wpAny M A s E (eval l aa >>= fun a=>compareChain ai a (eP::eQ::ops) (markedEach (eP::eQ::ops) (bD::cJ::rs) (evalEach (bD::cJ::rs) aa))) Q
 rw[e]
 exact ak h
theorem yQ{l eP eQ ops bD cJ rs ai whole}{Q:Bool→aG→Prop}
 (h:wpAny M A s E (eval l aa) (fun a aj=>wpAny M A aj E (testChain ai a (eP::eQ::ops) (eval bD aa::eval cJ aa::evalEach rs aa)) Q))
 (hm:autoParam (lastMarks (eP::eQ::ops) (bD::cJ::rs)=false) Jm.a2):wpAny M A s E (isTrue (.Compare l (eP::eQ::ops) (bD::cJ::rs) ai) aa whole) Q:=by
 have e:=markedEach_of_false (eP::eQ::ops) (bD::cJ::rs) (evalEach (bD::cJ::rs) aa) hm
 show wpAny M A s E (eval l aa >>= fun a=>testChain ai a (eP::eQ::ops) (markedEach (eP::eQ::ops) (bD::cJ::rs) (evalEach (bD::cJ::rs) aa))) Q
 rw[e]
 exact ak h
theorem Ci{ai:Pos}{a:Value}{op DZ:CmpOp}{ops:List CmpOp}{r r':Sem Value}{Q:bN}
 (h:wpAny M A s E r (fun b aj=>wpAny M A aj E (compareOp op a b) (fun c aO=>wpAny M A aO E (truthy c) (fun t bI=>if t then wpAny M A bI E (compareChain ai b (DZ::ops) (r'::rs)) Q else Q c bI)))):wpAny M A s E (compareChain ai a (op::DZ::ops) (r::r'::rs)) Q:=
 dw (m:=r) h fun _ _ k=>b9 (dw k fun _ _ k=>rel (dw k fun t _ k=>l9 (by cases t<;>first|exact k|exact ao k)))
theorem Cj{ai:Pos}{a:Value}{op:CmpOp}{r:Sem Value}{Q:bN}(h:wpAny M A s E r (fun b aj=>wpAny M A aj E (compareOp op a b) Q)):wpAny M A s E (compareChain ai a [op] [r]) Q:=
 dw (m:=r) h fun _ _ k=>b9 (gX k)
theorem D7{ai:Pos}{a:Value}{op DZ:CmpOp}{ops:List CmpOp}{r r':Sem Value}{Q:Bool→aG→Prop}
 (h:wpAny M A s E r (fun b aj=>wpAny M A aj E (compareOp op a b) (fun c aO=>wpAny M A aO E (truthy c) (fun t bI=>if t then wpAny M A bI E (testChain ai b (DZ::ops) (r'::rs)) Q else Q false bI)))):wpAny M A s E (testChain ai a (op::DZ::ops) (r::r'::rs)) Q:=
 dw (m:=r) h fun _ _ k=>b9 (dw k fun _ _ k=>rel (dw k fun t _ k=>l9 (by cases t<;>first|exact k|exact ao k)))
theorem Ea{ai:Pos}{a:Value}{op:CmpOp}{r:Sem Value}{Q:Bool→aG→Prop}
 (h:wpAny M A s E r (fun b aj=>wpAny M A aj E (compareOp op a b) (fun c aO=>wpAny M A aO E (truthy c) Q))):wpAny M A s E (testChain ai a [op] [r]) Q:=
 dw (m:=r) h fun _ _ k=>b9 (GK k fun _ _ k=>bo k)
theorem Ck{op e ai}{Q:bN}(h:wpAny M A s E (eval e aa) Q):wpAny M A s E (eval (.BoolOp op [e] ai) aa) Q:=h
theorem Cm{iP kx aW ai}{Q:bN}
 (h:wpAny M A s E (eval iP aa) (fun v aj=>wpAny M A aj E (truthy v) (fun c aO=>if c then wpAny M A aO E (eval (.BoolOp .And (kx::aW) ai) aa) Q else Q v aO))) :
  wpAny M A s E (eval (.BoolOp .And (iP::kx::aW) ai) aa) Q:=
 seq (m:=eval iP aa) h fun _ _ k=>b9 (dw k fun c _ k=>by cases c<;>first|exact ao k|exact k)
theorem Eb{iP kx aW ai}{Q:bN}
 (h:wpAny M A s E (eval iP aa) (fun v aj=>wpAny M A aj E (truthy v) (fun c aO=>if c then Q v aO else wpAny M A aO E (eval (.BoolOp .Or (kx::aW) ai) aa) Q))) :
  wpAny M A s E (eval (.BoolOp .Or (iP::kx::aW) ai) aa) Q:=
 seq (m:=eval iP aa) h fun _ _ k=>b9 (dw k fun c _ k=>by cases c<;>first|exact ao k|exact k)
theorem Cn{x ai whole}{Q:Bool→aG→Prop}(h:wpAny M A s E (isTrue x aa (eval x aa)) (fun c s'=>Q (!c) s')):wpAny M A s E (isTrue (.UnaryOp .Not x ai) aa whole) Q:=
 seq (m:=isTrue x aa (eval x aa)) h fun _ _ k=>ao k
theorem Co{x aW ai whole}{Q:Bool→aG→Prop}
 (h:wpAny M A s E (isTrue x aa (eval x aa)) (fun c s'=>if c then wpAny M A s' E (isTrue (.BoolOp .And aW ai) aa whole) Q else Q false s')):wpAny M A s E (isTrue (.BoolOp .And (x::aW) ai) aa whole) Q:=
 seq (m:=isTrue x aa (eval x aa)) h fun c _ k=>by cases c<;>first|exact ao k|exact k
theorem Ec{x aW ai whole}{Q:Bool→aG→Prop}
 (h:wpAny M A s E (isTrue x aa (eval x aa)) (fun c s'=>if c then Q true s' else wpAny M A s' E (isTrue (.BoolOp .Or aW ai) aa whole) Q)):wpAny M A s E (isTrue (.BoolOp .Or (x::aW) ai) aa whole) Q:=
 seq (m:=isTrue x aa (eval x aa)) h fun c _ k=>by cases c<;>first|exact ao k|exact k
theorem yR{whole:Sem Value}{Q:Bool→aG→Prop}(h:wpAny M A s E whole (fun v aj=>wpAny M A aj E (truthy v) Q))
 (he:autoParam (isTrue e aa whole=(do let v ← whole;standAt e.pos;holding [v] (truthy v))) Jm.a0):wpAny M A s E (isTrue e aa whole) Q:=by
 rw[he]
 exact seq h fun _ _ k=>b9 (bo k)
theorem gI{st aW}{Q:Flow→aG→Prop}(h:wpAny M A s E (exec st aa) (fun f s'=>match f with|.next=>wpAny M A s' E (execs aW aa) Q|f=>Q f s')) :
  wpAny M A s E (execs (st::aW) aa) Q:=by
 rw[execs_cons]
 exact seq h fun f _ k=>by cases f<;>first|exact ao k|exact k
theorem GL{test aZ orelse ai}{Q:Flow→aG→Prop}
 (h:wpAny M A s E (isTrue test aa (eval test aa)) (fun b aO=>if b then wpAny M A aO E (execs aZ aa) Q else wpAny M A aO E (execs orelse aa) Q)):wpAny M A s E (exec (.If test aZ orelse ai) aa) Q:=by
 rw[exec_If]
 exact b9 (seq h fun _ _ k=>l9 k)
theorem jB{e ai}{Q:Flow→aG→Prop}(h:wpAny M A s E (eval e aa) (fun v=>Q (.ret v))):wpAny M A s E (exec (.Return (some e) ai) aa) Q:=by
 rw[exec_Return_some]
 exact b9 (seq h fun _ _ k=>ao k)
theorem tF{x pos' bJ ai}{Q:Flow→aG→Prop}(h:wpAny M A s E (eval bJ aa) (fun v aj=>wpAny M A aj E (storeName aa x v) (fun _=>Q .next)))
 (hs:autoParam (swapsWith bJ (some (.Name x pos')) ai.line aa=pure false) Jm.a0):wpAny M A s E (exec (.Assign [.Name x pos'] bJ ai) aa) Q:=by
 rw[exec_Assign_Name aa x pos' bJ ai hs]
 exact b9 (seq h fun _ _ k=>b9 (seq (lC k) fun _ _ k=>ao k))
theorem tG{x ai v}{Q:Unit→aG→Prop}(h:wpAny M A s E (storeName aa x v) Q):wpAny M A s E (assign (.Name x ai) aa v) Q:=by
 rw[PySem.assign_Name]
 exact b9 (lC h)
theorem Ed{aB bK aZ orelse ai}{Q:Flow→aG→Prop}
 (h:wpAny M A s E (eval bK aa) (fun x aj=>wpAny M A aj E (pyIter x) (fun it aO =>
   bw M A (.forLoop aB it aZ orelse aa) (fun r s'=>match r with|.ok f=>Q f s'|.error e=>fL M A aa E e s') aO)))
 (hs:autoParam (∀x,foldedSetIterable bK aa x=pure x) Jm.a3):wpAny M A s E (exec (.For aB bK aZ orelse ai) aa) Q:=by
 rw[exec_For]
 refine b9 (seq h fun x _ k=>?_)
 rw[hs]
 exact known (b9 (dw k fun _ _ k=>nh k))
theorem yS{targets:List Expr}{ai:Pos}{Q:Flow→aG→Prop}(h:wpAny M A s E (deleteEach targets aa) (fun _ aj=>Q .next aj)):wpAny M A s E (exec (.Delete targets ai) aa) Q:=by
 rw[arm_exec_Delete]
 exact b9 (seq h fun _ _ k=>ao k)
theorem ud{i:Expr}{ai:Pos}{Q:Unit→aG→Prop}(h:wpAny M A s E (eval o aa) (fun ov aj=>wpAny M A aj E (eval i aa) (fun iv aO=>wpAny M A aO E (delItem ov iv) Q))) :
  wpAny M A s E (delete (.Subscript o i ai) aa) Q:=by
 rw[arm_delete_Subscript]
 exact seq h fun _ _ k=>dw k fun _ _ k=>b9 (dw k fun _ _ k=>aD (wpAny_release' k))
theorem qj{elts k iO bJ ai}{Q:Flow→aG→Prop}
 (h:wpAny M A s E (eval bJ aa) (fun v aj=>wpAny M A aj E (unpackItems v names.length none) (fun aw aO =>
   wpAny M A aO E (assignInOrder (names.reverse.map fun n=>bindName aa n) aw.reverse) (fun _=>Q .next))))
 (hs:autoParam (swapsWithSole [.Tuple elts k iO] bJ ai.line aa=pure false) Jm.a0)
 (hw:autoParam (swappedStores [.Tuple elts k iO] bJ aa=pure (some names)) Jm.a0):wpAny M A s E (exec (.Assign [.Tuple elts k iO] bJ ai) aa) Q:=by
 rw[PyProof.Rows.exec_Assign,hs]
 refine b9 (known ?_)
 rw[aY mw]
 refine seq h fun v _ k=>?_
 rw[hw]
 exact known (qi (seq k fun _ _ k=>seq k fun _ _ k=>ao k))
theorem rk{targets:List Expr}{ai:Pos}{Q:Flow→aG→Prop}
 (h:wpAny M A s E (eval bJ aa) (fun v aj=>wpAny M A aj E (assignAll v ((assignEach targets aa).map (·.2))) (fun _=>Q .next)))
 (hs:swapsWithSole targets bJ ai.line aa=pure false)(hw:swappedStores targets bJ aa=pure none):wpAny M A s E (exec (.Assign targets bJ ai) aa) Q:=by
 rw[exec_Assign_arm,hs]
 refine b9 (known ?_)
 rw[aY mw]
 refine seq h fun v _ k=>?_
 rw[hw]
 exact known (seq (m:=assignAll v _) k fun _ _ k=>ao k)
theorem ni{t:Value→Sem Unit}{ts:List (Value→Sem Unit)}{x:Value}{xs:List Value}{Q:Unit→aG→Prop}
 (h:wpAny M A s E (t x) (fun _ aj=>wpAny M A aj E (assignInOrder ts xs) Q)):wpAny M A s E (assignInOrder (t::ts) (x::xs)) Q:=dw (m:=t x) h fun _ _ k=>k
theorem lE{i:Expr}{ai:Pos}{op:Operator}{Q:Flow→aG→Prop}
 (h:wpAny M A s E (eval o aa) (fun ov aj=>wpAny M A aj E (eval i aa) (fun iv aO=>wpAny M A aO E (getItem ov iv) (fun old bI =>
     wpAny M A bI E (eval bJ aa) (fun v gS=>wpAny M A gS E (inplaceOp op old v) (fun new gT =>
      wpAny M A gT E (setItem ov iv new) (fun _=>Q .next)))))))
 (hi:autoParam (∀ov iv new,augStore i ov iv new=(do holding [new,ov,iv] (setItem ov iv new);release [new,ov,iv] [];pure .next)) Jm.a4) :
  wpAny M A s E (exec (.AugAssign (.Subscript o i iO) op bJ ai) aa) Q:=by
 refine b9 (f:=fun _=>_) (seq (m:=eval o aa) h fun ov _ k=>dw k fun iv _ k=>?_)
 refine dw (R:=fun new s'=>wpAny M A s' E (setItem ov iv new) (fun _=>Q .next)) (b9 (seq k fun _ _ k=>dw k fun _ _ k=>b9 (gX k))) fun new _ k=>b9 ?_
 rw[hi]
 exact dw k fun _ _ k=>rel (ao k)
theorem lF{attr:Str}{ai:Pos}{op:Operator}{Q:Flow→aG→Prop}
 (h:wpAny M A s E (eval o aa) (fun ov aj=>wpAny M A aj E (getAttr ov attr true) (fun old aO =>
     wpAny M A aO E (eval bJ aa) (fun v bI=>wpAny M A bI E (inplaceOp op old v) (fun new gS =>
      wpAny M A gS E (setAttr ov attr new) (fun _=>Q .next)))))):wpAny M A s E (exec (.AugAssign (.Attribute o attr iO) op bJ ai) aa) Q:=by
 refine b9 (f:=fun _=>_) (seq (m:=eval o aa) h fun ov _ k=>?_)
 refine dw (R:=fun new s'=>wpAny M A s' E (setAttr ov attr new) (fun _=>Q .next)) (b9 (seq k fun _ _ k=>dw k fun _ _ k=>b9 (gX k))) fun new _ k=>b9 ?_
 exact dw k fun _ _ k=>rel (ao k)
theorem uO{c:Expr}{Q:Bool→aG→Prop}(h:wpAny M A s E (isTrue c aa (eval c aa)) Q) :
  wpAny M A s E (forIn [c] true fun c r=>if r=true then do let ok ← isTrue c aa (eval c aa);pure (ForInStep.yield ok)else pure (ForInStep.yield r)) Q:=by
 rw[forIn_cons,bh rfl]
 refine seq (R:=fun r s'=>∃b,r=.yield b∧Q b s') (seq h fun b _ k=>ao ⟨b,rfl,k⟩) ?_
 rintro _ _ ⟨b,rfl,k⟩:_
 exact ao k
theorem GN{w:World}{slice:Expr}{o i:Value}{ops:List Value}{T:String}{Q:bN}(hT:s.TypeIs o T)
 (hl:typeLookup (.type T) "__getitem__"=pure (some (.builtin id)))(hg:wpAny (model aq w) A s E (getItem o i) Q)
 (hs:subscripted slice false o i=operate ops (getItem o i)):wpAny (model aq w) A s E (subscriptTail bJ slice o i) Q:=by
 have fin:wpAny (model aq w) A s E (subscripted slice false o i >>= fun r=>letTemporaryGo bJ o r >>= fun _=>pure r) Q:=by
  rw[hs];exact GK hg fun _ _ k=>leaf (wpAny_letTemporaryGo (ao k))
 unfold subscriptTail
 rw[getitemInPython_of_ne hT.not_modules]
 refine ak (leaf (PySem.wpAny_specialOf hT hl ?_))
 first
  |exact ao fin
  |exact known (ao fin)
  |exact known fin
theorem cY{self:Value}{T:String}{az:List Value}{Q:Option Value→aG→Prop}(hT:s.TypeIs self T)(h:Slot T name id)
 (hc:wpAny M A s E (call (.builtin id) (self::az) kw) (fun v=>Q (some v))):wpAny M A s E (callSpecial? self name az kw) Q:=by
 unfold callSpecial?
 refine leaf (PySem.wpAny_specialOf hT h.lookup ?_)
 dsimp only
 rw[h.bind]
 exact bo (known (seq hc fun _ _ k=>ao k))
theorem rF{o i:Value}{T:String}{Q:Unit→aG→Prop}(hT:s.TypeIs o T)(hn:seqItemTypes.contains T=false)(slot:Slot T "__delitem__" id)
 (hc:wpAny M A s E (call (.builtin id) [o,i]) (fun _ s'=>Q () s')):wpAny M A s E (delItem o i) Q:=by
 unfold delItem
 exact bo (leaf (wpAny_sequenceKey hT hn (ak (cY hT slot (aL hc (fun _ _ k=>ao k) fun _ _ e=>e)))))
end
section
variable {aq:Program}{w:World}{A:Around}{E:bN}{R:Result→aG→Prop}{s:aG}{aa:Env}
theorem pF{e ai}{Q:Flow→aG→Prop}(h:wpAny (model aq w) A s E (eval e aa) (fun _=>Q .next))(hi:autoParam (interactive aa=false) Jm.a0)(hs:autoParam (swapsWith e none ai.line aa=pure false) Jm.a0) :
  wpAny (model aq w) A s E (exec (.Expr e ai) aa) Q:=by
 rw[exec_Expr aa e ai hi hs]
 exact b9 (seq h fun _ _ k=>aD (wpAny_dropValue k))
theorem rG{ai:Pos}{t:Addr}{aw:Array Value}{Q:Unit→aG→Prop}(hh:A.handled=none)(ht:IsTup s.heap t aw)(hn:(assignEach elts aa).length=aw.size)
 (mL:(assignEach elts aa).findIdx? (·.1)=none)
 (h:∀h',Heap.ExtBut s.heap.objs.size s.heap h'→wpAny (model aq w) A {s with heap:=h'} E (assignInOrder ((assignEach elts aa).map (·.2)) aw.toList) Q) :
  wpAny (model aq w) A s E (assign (.Tuple elts k ai) aa (.ref t)) Q:=by
 rw[assign_Tuple]
 unfold unpack
 rw[hn,mL]
 exact b9 (ak (bo (aD (unpackItems_tuple hh ht h))))
theorem ya{stmts:List Stmt}(h:wpAny (model aq w) A s (cE (model aq w) A aa fun e s'=>R (.error e) s') (execs stmts aa) (fun f s'=>R (.ok f) s')) :
  bw (model aq w) A (.block stmts aa) R s:=
 bU rfl (seq (m:=(execs stmts aa).onRaise fun x=>do noteFrame x aa;theTreesLotGoes x) (jI h) fun _ _ k=>ao k)
theorem codeAny_func
 (h:wpAny (model aq w) (A.deeper aa) s (fun e s'=>wpAny (model aq w) (A.deeper aa) s' (fun e' bQ=>R (.error e') bQ) (leaving aa e) (fun _ bQ=>R (.error e) bQ)) (execs aZ aa) (fun f s'=>R (.ok (.ret (match f with|.ret v=>v|_=>.none))) s')):bw (model aq w) A (.func aZ aa) R s:=by
 refine bU rfl ?_
 show wpAny _ (A.deeper aa) s _ (do point;match ← (execs aZ aa).onRaise (leaving aa)with|.ret v=>ret v|_=>ret .none) _
 exact ak (oW (seq (fY h) fun f _ k=>by cases f<;>exact ao k))
theorem ee{az:Args}{b:Builtin}(hb:entryFor table id=some b)
 (h:wpAny (model aq w) (A.under (.builtin id az)) s (fun e s'=>R (.error e) s') (b az) (Cf (model aq w) A R))(hl:autoParam (yp id=false) Jm.a6):bw (model aq w) A (.builtin id az) R s:=by
 refine bU hl ?_
 have e:(model aq w).den (.builtin id az)=b az:=by
  show(match entryFor table id with|some b=>b az|none=>unsupported ((withoutEnding? id "#data").getD id))=b az;rw[hb]
 rw[e]
 exact h
theorem dA{az:Args}{b:Builtin}(hq:plainId id=true)(hb:entryFor table id=some b)
 (h:wpAny (model aq w) A.in1 s (fun e s'=>R (.error e) s') (checkBuiltinCall id az) (fun _ aj=>wpAny (model aq w) A.in1 aj (fun e s'=>R (.error e) s') (b az) (Cf (model aq w) A R)))
 (hl:autoParam (yp id=false) Jm.a6):bw (model aq w) A (.call (.builtin id) az) R s:=by
 refine bU rfl ?_
 show wpAny _ A.in1 s _ (do checkBuiltinCall id az;again (.builtin id az)) _
 refine seq h fun _ aj k=>ao ⟨plainId_quiet hq az,ee hb ?_ hl⟩
 rw[Around.under_plainId hq az]
 exact k
theorem kd:∀ {a:Addr} {az:Args} {o:Obj} {fd:FuncData} {aZ:List Stmt} (lU:A.depth<recursionLimit) (ho:s.heap.get? a=some o) (dJ:o.data=.func fd) (ma:fd.scope.isCoroutine=false) (i5:fd.scope.isGenerator=false) (gY:fd.body=.stmts aZ) (gc:s.heap.CodeRec fd.code fd.qualname) (h:wpAny (model aq w) A.in1 s (fun e s'=>R (.error e) s') (bindArgs fd az) (fun binds aj=>wpAny (model aq w) A.in1 aj (fun e s'=>R (.error e) s') (newFunctionEnv fd.scope fd.globals fd.closure binds (fd.qualname++".<locals>.") (some a) fd.code none fd.builtins) (fun aa aO=>aO.heap.NoLimit∧bw (model aq w) A (.func aZ aa) R aO))),bw (model aq w) A (.call (.ref a) az) R s:=by
 revert aq w A R s
 rintro aq w A R s a az o fd:(_)
 rintro aZ:(_)
 w_up
 refine bU rfl ?_
 obtain⟨c,oc,vs,tq,hc,md,og,hq⟩:=gc
 rw[hc]at h
 show wpAny _ A.in1 s _ (callAny (.ref a) az) _
 unfold callAny
 refine leaf (ku ho ?_)
 rw[dJ]
 show wpAny _ _ _ _ (callFunction a fd az) _
 unfold callFunction
 rw[hc,gY,i5,ma]
 refine leaf (m:=field (.ref c) 1) (jW md og hq (known ?_))
 exact seq h fun _ _ k=>seq k fun _ _ k=>leaf (wpAny_enterFrame k.1 lU (ao ⟨rfl,k.2⟩))
theorem ue{o:Obj}{fd:FuncData}{az:Args}(lU:A.depth<recursionLimit)(ho:s.heap.get? a=some o)(Cp:o.data=.func fd)
 (GO:s.heap.NoLimit)(gc:s.heap.CodeRec fd.code fd.qualname)(gY:fd.body=.stmts aZ)(dB:BindsTo s fd az binds)
 (jg:∀x∈fd.scope.names,x.2≠.cell)(lG:∀x∈binds,fd.scope.names.lookup x.1=some .local)
 (h:∀h₀,h₀.Ns s.heap.objs.size (fun x=>binds.reverse.lookup x)→(∀b o,s.heap.get? b=some o→h₀.get? b=some o)→
   wpAny (model aq w) (A.deeper (callEnv fd s.heap.objs.size a)) {s with heap:=h₀,toks:=s.toks+binds.length} (fun e s'=>wpAny (model aq w) (A.deeper (callEnv fd s.heap.objs.size a)) s' (fun e' bQ=>R (.error e') bQ) (leaving (callEnv fd s.heap.objs.size a) e) (fun _ bQ=>R (.error e) bQ)) (execs aZ (callEnv fd s.heap.objs.size a)) (fun f s'=>R (.ok (.ret (match f with|.ret v=>v|_=>.none))) s'))
 (ma:autoParam (fd.scope.isCoroutine=false) Jm.a0)(i5:autoParam (fd.scope.isGenerator=false) Jm.a0)(hk:autoParam (fd.scope.kind=.function) Jm.a0):bw (model aq w) A (.call (.ref a) az) R s:=by
 refine kd lU ho Cp ma i5 gY gc (aD (dB _ _ _ _ (aD (wpAny_newFunctionEnv jg lG (fun h₀ iV Ee=>?_) hk))))
 have old:∀b o,s.heap.get? b=some o→h₀.get? b=some o:=fun b o e=>Ee.extBut b o (fun z=>absurd (kq e) (by rw[z];exact Nat.lt_irrefl _)) (fb _ e)
 exact⟨GO.fresh _ Ee,codeAny_func (h h₀ iV old)⟩
theorem rH{o:Obj}{fd:FuncData}{au:List Value}(lU:A.depth<recursionLimit)(ho:s.heap.get? a=some o)(Cp:o.data=.func fd)
 (GO:s.heap.NoLimit)(gc:s.heap.CodeRec fd.code fd.qualname)(gY:fd.body=.stmts aZ)(dB:bindArgs fd ⟨au,[]⟩=pure binds)(jX:fd.closure=[])
 (ir:∀x∈binds,fd.scope.names.lookup x.1=some .local∨(fd.scope.names.lookup x.1=some .cell∧((cellsFrom (s.heap.objs.size+1) fd.scope.names []).lookup x.1).isSome=true))
 (h:∀aj,InCallC s (callEnvC fd s.heap.objs.size a).locals (bindL (callEnvC fd s.heap.objs.size a).kindOf binds fun _=>none) (callEnvC fd s.heap.objs.size a).cells
    (bindC (callEnvC fd s.heap.objs.size a).kindOf binds fun _=>none) aj→
   wpAny (model aq w) (A.deeper (callEnvC fd s.heap.objs.size a)) aj (fun e s'=>wpAny (model aq w) (A.deeper (callEnvC fd s.heap.objs.size a)) s' (fun e' bQ=>R (.error e') bQ) (leaving (callEnvC fd s.heap.objs.size a) e) (fun _ bQ=>R (.error e) bQ)) (execs aZ (callEnvC fd s.heap.objs.size a)) (fun f s'=>R (.ok (.ret (match f with|.ret v=>v|_=>.none))) s'))
 (ma:autoParam (fd.scope.isCoroutine=false) Jm.a0)(i5:autoParam (fd.scope.isGenerator=false) Jm.a0)(hk:autoParam (fd.scope.kind=.function) Jm.a0):bw (model aq w) A (.call (.ref a) ⟨au,[]⟩) R s:=by
 refine kd lU ho Cp ma i5 gY gc ?_
 rw[dB,jX]
 refine ao (aD (wpAny_newFunctionEnv_cells hk ir fun aa he s' x=>?_))
 subst he
 exact⟨GO.keeps x.toInCall.keep,codeAny_func (h s' x)⟩
theorem oX{eg aB bK ifs aW scope ai it aR}(h0:bw (model aq w) A (.compLoop (.ListComp eg (⟨aB,bK,ifs,0⟩::aW) scope ai) 0 it aR aa) R s)
 (h:wpAny (model aq w) A s (cE (model aq w) A aa fun x s'=>R (.error x) s') (pyIter it) (fun UZ s'=>bw (model aq w) A (.compLoop (.ListComp eg (⟨aB,bK,ifs,0⟩::aW) scope ai) 0 UZ aR aa) R s')) :
  bw (model aq w) A (.compStart (.ListComp eg (⟨aB,bK,ifs,0⟩::aW) scope ai) 0 it aR aa) R s:=by
 refine bU rfl ?_
 show wpAny _ _ s _ ((compStart (.ListComp eg (⟨aB,bK,ifs,0⟩::aW) scope ai) 0 it aR aa).onRaise (fun x=>do noteFrame x aa;standAt theWindowsPlace)) _
 refine xY ?_
 unfold compStart
 refine leaf (m:=ask) (wpAny_askSetting (ed (fun _=>?_) fun _=>?_))
 ·first
   |exact ao ⟨rfl,h0⟩
   |exact known (ao ⟨rfl,h0⟩)
 exact qi (b9 (f:=fun _=>pyIter it >>= _) (seq h fun _ _ k=>ao ⟨rfl,k⟩))
end
section
variable {M:Model}{A:Around}{E:bN}{s:aG}{aa:Env}
noncomputable def uf(M:Model)(A:Around)(E:bN)(use:Option (Value→Sem Unit))(Q:bN)(aR:Value)(C:Addr)(r:Result)(s':aG):Prop:=
 match r,use with
 |.ok _,none=>∃m,s'.heap.Ns C m∧∀h',Heap.SameBut C s'.heap h'→Q aR {s' with heap:=h'}
 |.ok _,some u=>wpAny M A s' E (u aR) (fun _ bQ=>∃m,bQ.heap.Ns C m∧∀h',Heap.SameBut C bQ.heap h'→Q .none {bQ with heap:=h'})
 |.error x,_=>∃m,s'.heap.Ns C m∧∀h',Heap.SameBut C s'.heap h'→∀cenv:Env,cenv.locals=C→wpAny M A {s' with heap:=h'} E (passOn "comprehension.variables-let-go" x cenv:Sem Value) (fun _ _=>False)
theorem nj{e:Expr}{scope:Scope}{ai:Pos}{uP first:Sem Value}{g:Comprehension}{gs:List Comprehension}{cl:List (Str×Addr)}{use:Option (Value→Sem Unit)}{Q:bN}
 (dS:clausesOf e=g::gs)(hs:∀x,foldedSetIterable g.iter aa x=pure x)(Cq:closureFor scope aa=pure cl)(ir:scope.kind=.function)
 (yT:∀x∈scope.names,x.2=.local→scope.names.lookup x.1=some .local)
 (h:wpAny M A s E first (fun x aj=>wpAny M A aj E (pyIter x) (fun it aO=>wpAny M A aO E uP (fun aR bI =>
   wpAny M A bI E (newFunctionEnv scope aa.globals cl [] aa.qual none .none (some aa)) (fun cenv gS =>
    bw M A (.compStart e 0 it aR {cenv with scope:=relabel scope aa}) (uf M A E use Q aR cenv.locals) gS))))) :
  wpAny M A s E (comprehension e scope aa ai uP false first use) Q:=by
 revert dS hs Cq ir yT h
 revert M A E s aa e scope ai uP first g gs cl use Q
 rintro M A E s aa e scope ai uP first g gs:(_)
 rintro cl use Q:(_)
 intro dS hs Cq ir yT h
 unfold comprehension
 rw[Cq,dS]
 refine seq h fun x _ k=>b9 (ak (cM (hs x) ?_))
 refine dw k ?_
 rintro it aO:(_)
 intro k
 have aW:∀t:Unit→Sem Value,wpAny M A aO E (t ()) Q→wpAny M A aO E (if use.isSome=true then standAt e.pos >>= t else t ()) Q:=fun t ht=>ed (fun _=>b9 ht) fun _=>ht
 refine aW _ (seq k fun aR _ k=>known (seq k fun cenv gS k=>?_))
 dsimp only
 let vars:=scope.names.filter fun x=>(x.2==.local||x.2==.cell)&&x.1 != (".0" : Str)
 have hv:∀x∈vars.reverse,x.2=.local→Env.kindOf {cenv with scope:=relabel scope aa} x.1=some .local:=fun x hx hl=>lookup_relabel_local (yT x (mem_filter.mp (List.mem_reverse.mp hx)).1 hl)
 have Ef:∀x∈vars.reverse.drop 1++vars.reverse.take 1,x.2=.local→Env.kindOf {cenv with scope:=relabel scope aa} x.1=some .local:=fun x hx hl =>
  (eG hx).elim (fun y=>hv x (List.mem_of_mem_drop y) hl) fun y=>hv x (List.mem_of_mem_take y) hl
 refine bo (ak (jQ (bo (xj (dR k fun r s' hr=>?_)))))
 cases r with
 |ok f =>
  cases use with
  |none =>
  obtain⟨m,hn,hr⟩:=hr;exact ak (bo (aD (wpAny_comp_letGo (cenv:={cenv with scope:=relabel scope aa}) ir _ s' m hv hn fun h' _ _ dF=>ao (hr h' dF))))
  |some u =>
  refine qi (dw hr ?_);rintro _ bQ ⟨m,hn,hr⟩:_;exact leaf (wpAny_comp_letGo (cenv:={cenv with scope:=relabel scope aa}) ir _ bQ m Ef hn fun h' _ _ dF=>ao (hr h' dF))
 |error x =>
  have hr:∃m,s'.heap.Ns cenv.locals m∧∀h',Heap.SameBut cenv.locals s'.heap h'→∀Ij:Env,Ij.locals=cenv.locals→wpAny M A {s' with heap:=h'} E (passOn "comprehension.variables-let-go" x Ij:Sem Value) (fun _ _=>False):=by cases use<;>exact hr
  obtain⟨m,hn,hr⟩:=hr;exact ak (bo (aD (wpAny_comp_letGo (cenv:={cenv with scope:=relabel scope aa}) ir _ s' m hv hn fun h' _ _ dF=>aL (hr h' dF _ rfl) (fun _ _ f=>f.elim) fun _ _ y=>y)))
end
section
variable {K:Type}[DecidableEq K]{aq:Program}{w:World}{knd:PySem.KeyKind aq w K}{A:Around}{E:bN}{s:aG}{aa:Env}
theorem ug{ai:Pos}{pairs:List (Sem Value×Sem Value)}{Q:bN}
 (nq:(evalEachOpt keys aa).zip ((evalEach values aa).map fun v=>do let x ← v;standAt ai;pure x)=pairs.map fun p=>(some p.1,p.2))(h0:pairs≠[])(hlen:pairs.length≤15)
 (h:wpAny (model aq w) A {s with heap:=s.heap.push {cls:=.type "dict",data:=.dict #[]}} E (evalPairs pairs) (fun vs aj=>∃bf,Carries knd vs bf∧aj.heap.DictOf knd s.heap.objs.size []∧
   ∀h',h'.DictOf knd s.heap.objs.size (merged [] bf)→Heap.SameBut s.heap.objs.size aj.heap h'→Q (.ref s.heap.objs.size) {aj with heap:=h',toks:=aj.toks+vs.length})):wpAny (model aq w) A s E (eval (.Dict keys values ai) aa) Q:=by
 have ON:wpAny (model aq w) A {s with heap:=s.heap.push {cls:=.type "dict",data:=.dict #[]}} E (evalPairs pairs) (fun vs aj=>vs.length=pairs.length∧∃bf,Carries knd vs bf∧aj.heap.DictOf knd s.heap.objs.size []∧
   ∀h',h'.DictOf knd s.heap.objs.size (merged [] bf)→Heap.SameBut s.heap.objs.size aj.heap h'→Q (.ref s.heap.objs.size) {aj with heap:=h',toks:=aj.toks+vs.length}):=fun Γ p i c b=>wp_evalPairs_len _ Γ pairs _ _ p _ (h Γ p i c b)
 rw[arm_eval_Dict,nq,dictDisplay_pairs pairs h0 %[|hlen]]
 unfold subDict
 refine b9 (seq (R:=fun d s'=>Q (.ref d) s') (leaf (wpAny_alloc (dw (R:=fun _ s'=>Q (.ref s.heap.objs.size) s') ?_ fun _ _ k=>ao k))) fun _ _ k=>ao k)
 rw[bh hlen]
 refine seq ON ?_
 rintro vs aj ⟨n,bf,hc,hd,hq⟩:_
 have hz:([]:List (K×Value)).length+bf.length≤sizeLine:=by
  have:=hc.length;rw[dH,length_nil];exists hlen,n,this
 exact bo (leaf (wpAny_storeAll (knd:=knd) vs bf [] aj _ hc hd hz fun h' a b=>ao (hq h' a b)))
end
end Lake
end
section
namespace JL
noncomputable abbrev dh(C t:Addr)(d:Option Addr):Obj:={cls:=.ref C,dict:=d,data:=.fields #[.ref t,.none,.none,.none,.bool false,.none]}
end JL
namespace Lake
set_option genInjectivity true in
inductive LV where
 |none|bool (b:Bool)|int (i:Int)|str (s:Str)|bX (b:bc)|ref (a:Addr)|con (v:Value)|tup (vs:List LV)|fl (vs:List LV)|fw (vs:List LV)|view (a:Addr)|uQ (lo hi:LV)
 deriving Inhabited
noncomputable abbrev FZ:=Addr→Option Obj
mutual
noncomputable def VR(φ:FZ):LV→Value→Prop
 |.none,v=>v=.none
 |.bool b,v=>v=.bool b
 |.int i,v=>∃t,v=.int i t
 |.str s,v=>∃t,v=.str s t
 |.bX b,v=>∃t,v=.bytes b.toArray t
 |.ref a,v=>v=.ref a
 |.con c,v=>v=c
 |.tup vs,v=>∃a o xs n,v=.ref a∧φ a=some o∧o.cls=.type "tuple"∧o.data=.seq xs n∧bg φ vs xs.toList
 |.fl vs,v=>∃a xs n,v=.ref a∧φ a=some {cls:=.type "list",data:=.seq xs n}∧bg φ vs xs.toList
 |.fw vs,v=>∃a o xs n,v=.ref a∧φ a=some o∧o.cls=.type "list"∧o.data=.seq xs n∧bg φ vs xs.toList
 |.view d,v=>∃a,v=.ref a∧φ a=some {cls:=.type "dict_items",data:=.fields #[.ref d]}
 |.uQ lo hi,v=>∃a o l u,v=.ref a∧φ a=some o∧o.cls=.type "slice"∧o.data=.fields #[l,u,.none]∧VR φ lo l∧VR φ hi u
noncomputable def bg(φ:FZ):List LV→List Value→Prop
 |[],ws=>ws=[]
 |v::vs,ws=>∃w r,ws=w::r∧VR φ v w∧bg φ vs r
end
section
variable {φ:FZ}{v:Value}{vs:List LV}{ws:List Value}{d:Addr}{lo hi x:LV}
theorem lh:VR φ .none v=(v=.none):=rfl
theorem ky{b:Bool}:VR φ (.bool b) v=(v=.bool b):=rfl
theorem kz{i:Int}:VR φ (.int i) v=∃t,v=.int i t:=rfl
theorem kA{s:Str}:VR φ (.str s) v=∃t,v=.str s t:=rfl
theorem kE{b:bc}:VR φ (.bX b) v=∃t,v=.bytes b.toArray t:=rfl
theorem kF:VR φ (.ref d) v=(v=.ref d):=rfl
theorem kG{c:Value}:VR φ (.con c) v=(v=c):=rfl
theorem ke:VR φ (.tup vs) v=∃a o xs n,v=.ref a∧φ a=some o∧o.cls=.type "tuple"∧o.data=.seq xs n∧bg φ vs xs.toList:=rfl
theorem kg:VR φ (.fl vs) v=∃a xs n,v=.ref a∧φ a=some {cls:=.type "list",data:=.seq xs n}∧bg φ vs xs.toList:=rfl
theorem ix:VR φ (.fw vs) v=∃a o xs n,v=.ref a∧φ a=some o∧o.cls=.type "list"∧o.data=.seq xs n∧bg φ vs xs.toList:=rfl
theorem iy:VR φ (.view d) v=∃a,v=.ref a∧φ a=some {cls:=.type "dict_items",data:=.fields #[.ref d]}:=rfl
theorem iA:VR φ (.uQ lo hi) v=∃a o l u,v=.ref a∧φ a=some o∧o.cls=.type "slice"∧o.data=.fields #[l,u,.none]∧VR φ lo l∧VR φ hi u:=rfl
theorem Lo:bg φ [] ws=(ws=[]):=rfl
theorem Eg:bg φ (x::vs) ws=∃w r,ws=w::r∧VR φ x w∧bg φ vs r:=rfl
end
noncomputable def Ext(φ aH:FZ):Prop:=∀a o,φ a=some o→aH a=some o
theorem Ext.refl(φ:FZ):Ext φ φ:=fun _ _ e=>e
theorem Ext.trans{φ aH eR:FZ}(x:Ext φ aH)(y:Ext aH eR):Ext φ eR:=fun a o e=>y a o (x a o e)
theorem VR.mono{aH φ:FZ}{v:LV}(x:Ext φ aH):VR φ v w→VR aH v w:=by
 revert w
 refine LV.rec (motive_1:=fun v=>∀ {w},VR φ v w→VR aH v w) (motive_2:=fun vs=>∀ {ws},bg φ vs ws→bg aH vs ws) id (fun _=>id) (fun _=>id) (fun _=>id) (fun _=>id) (fun _=>id) (fun _=>id)
  (fun vs ih w h=>?_) (fun vs ih w h=>?_) (fun vs ih w h=>?_) (fun d w h=>?_) (fun lo hi ih uN w h=>?_) id (fun v vs ih uN w h=>?_) v
 ·rw[ke]at h ⊢;obtain⟨a,o,xs,n,h1,h2,h3,h4,h5⟩:=h;exact⟨a,o,xs,n,h1,x _ _ h2,h3,h4,ih h5⟩
 ·rw[kg]at h ⊢;obtain⟨a,xs,n,h1,h2,h5⟩:=h;exact⟨a,xs,n,h1,x _ _ h2,ih h5⟩
 ·rw[ix]at h ⊢;obtain⟨a,o,xs,n,h1,h2,h3,h4,h5⟩:=h;exact⟨a,o,xs,n,h1,x _ _ h2,h3,h4,ih h5⟩
 ·rw[iy]at h ⊢;obtain⟨a,h1,h2⟩:=h;exact⟨a,h1,x _ _ h2⟩
 ·rw[iA]at h ⊢;obtain⟨a,o,l,u,h1,h2,h3,h4,h5,h6⟩:=h;exact⟨a,o,l,u,h1,x _ _ h2,h3,h4,ih h5,uN h6⟩
 rw[Eg]at h ⊢
 obtain⟨w,r,h1,h2,h3⟩:=h
 exact⟨w,r,h1,ih h2,uN h3⟩
theorem bg.mono{φ aH:FZ}(x:Ext φ aH){vs:List LV}:∀ {ws:List Value},bg φ vs ws→bg aH vs ws:=by
 induction vs with
 |nil=>intro ws h;exact h
 |cons v vs ih =>
  intro ws h;rw[Eg]at h ⊢;obtain⟨w,r,h1,h2,h3⟩:=h;exact⟨w,r,h1,VR.mono x h2,ih h3⟩
theorem bg.bO{φ:FZ}:bg φ [] ws↔ws=[]:=Iff.rfl
theorem bg.cZ:∀ {ws:List Value} {vs:List LV} {φ:FZ} {v:LV} {w:Value},bg φ (v::vs) (w::ws)↔VR φ v w∧bg φ vs ws:=by
 rintro ws vs φ v w:(_)
 simp only[Lo,Eg]
 constructor
 ·rintro⟨w',r,h1,h2,h3⟩:_;cases h1;exact⟨h2,h3⟩
 rintro⟨h1,h2⟩:_;exact⟨w,ws,rfl,h1,h2⟩
theorem bg.cons_inv{ws:List Value}{φ:FZ}{vs:List LV}{v:LV}(h:bg φ (v::vs) ws):∃w r,ws=w::r∧VR φ v w∧bg φ vs r:=by exact h
theorem de{a:α}{l r:List α}:a∈l++a::r:=il _ (gQ ..)
theorem bg.length{φ:FZ}:∀ {vs:List LV} {ws:List Value},bg φ vs ws→ws.length=vs.length:=by
 intro ll
 induction ll with
 |nil =>
  rintro _ h;have h:=bg.bO.mp h;subst h;rfl
 |cons _ _ ih =>
  rintro _ h;obtain⟨w,r,rfl,_,h3⟩:=h.cons_inv;exact congrArg (·+1) (ih h3)
theorem bg.append{φ:FZ}:∀ {vs Eh:List LV} {ws Qz:List Value},bg φ vs ws→bg φ Eh Qz→bg φ (vs++Eh) (ws++Qz):=by
 intro ll
 induction ll with
 |nil =>
  rintro _ _ _ h h';have h:=bg.bO.mp h;subst h;exact h'
 |cons _ _ ih =>
  rintro _ _ _ h h';obtain⟨w,r,rfl,h2,h3⟩:=h.cons_inv;exact bg.cZ.mpr ⟨h2,ih h3 h'⟩
theorem bg.get{φ:FZ}:∀ {vs:List LV} {ws:List Value} {i:Nat} {v:LV},bg φ vs ws→vs[i]?=some v→∃w,ws[i]?=some w∧VR φ v w:=by
 intro vs
 induction vs with
 |nil=>intro _ i _ _ e;cases i<;>cases e
 |cons _ _ ih =>
  intro _ i _ h e;obtain⟨w,r,rfl,h2,h3⟩:=h.cons_inv;cases i with
  |zero=>cases e;exact⟨w,rfl,h2⟩
  |succ i=>exact ih (i:=i) h3 e
theorem bg.take{φ:FZ}:∀ {vs:List LV} {ws:List Value} (n:Nat),bg φ vs ws→bg φ (vs.take n) (ws.take n):=by
 intro vs
 induction vs with
 |nil=>intro _ n h;cases n<;>(have e:=bg.bO.mp h;subst e;exact bg.bO.mpr rfl)
 |cons _ _ ih =>
  intro _ n h;obtain⟨w,r,rfl,h2,h3⟩:=h.cons_inv;cases n with
  |zero=>exact bg.bO.mpr rfl
  |succ n=>exact bg.cZ.mpr ⟨h2,ih n h3⟩
theorem bg.drop{φ:FZ}:∀ {vs:List LV} {ws:List Value} (n:Nat),bg φ vs ws→bg φ (vs.drop n) (ws.drop n):=by
 intro vs
 induction vs with
 |nil=>intro _ n h;cases n<;>(have e:=bg.bO.mp h;subst e;exact bg.bO.mpr rfl)
 |cons _ _ ih =>
  intro _ n h;cases n with
  |zero=>exact h
  |succ n=>obtain⟨w,r,rfl,h2,h3⟩:=h.cons_inv;exact ih n h3
theorem bg.set{φ:FZ}:∀ {vs:List LV} {ws:List Value} (n:Nat) {v:LV} {w:Value},bg φ vs ws→VR φ v w→bg φ (vs.set n v) (ws.set n w):=by
 intro vs
 induction vs with
 |nil=>intro _ n _ _ h _;have e:=bg.bO.mp h;subst e;exact bg.bO.mpr rfl
 |cons _ _ ih =>
  intro _ n _ _ h hv;obtain⟨w,r,rfl,h2,h3⟩:=h.cons_inv;cases n with
  |zero=>exact bg.cZ.mpr ⟨hv,h3⟩
  |succ n=>exact bg.cZ.mpr ⟨h2,ih n h3 hv⟩
noncomputable abbrev Tag:=Nat×Nat×Int
set_option genCtorIdx true in
inductive LO where
 |inst (C dx:Addr) (fs:List (Str×LV))
 |exc (C:Addr) (d:Option Addr) (k:Nat)
 |dK (x:Addr)
 |list (vs:List LV)
 |dict (es:List (Int×LV)) (ep:Nat)
 |eC (es:List (Str×LV))
 |eM (b:bc)
 |table (q:Str)
 deriving Inhabited
noncomputable abbrev St:=Addr→Option (Tag×LO)
noncomputable def LO.kind(o:LO):Nat:=LO.rec (fun _ _ _=>0) (fun _ _ _=>1) (fun _=>2) (fun _=>3) (fun _ _=>4) (fun _=>5) (fun _=>6) (fun _=>7) o
theorem U0{σ:St}{t t':Tag}{o o':LO}{G:Prop}(h:σ a=some (t,o))(h':σ a=some (t',o'))(k:Nat.beq o.kind o'.kind=false):G:=
 have e:o=o':=congrArg Prod.snd (Option.some.inj (h.symm.trans h'))
 absurd (congrArg LO.kind e) (Nat.ne_of_beq_eq_false k)
theorem fG{σ:St}{b:Addr}{t t':Tag}{o o':LO}(h:σ b=some (t,o))(h':σ a=some (t',o'))(k:Nat.beq o.kind o'.kind=false):a≠b:=fun z=>U0 h (z▸h') k
noncomputable def LO.Ei:LO→Option Addr
 |.inst _ dx _=>some dx
 |.exc _ d _=>d
 |_=>none
noncomputable def upd(σ:St)(a:Addr)(c:Tag×LO):St:=fun b=>if b=a then some c else σ b
theorem aI(σ:St)(a:Addr)(c:Tag×LO):upd σ a c a=some c:=by simp[upd]
theorem av{a:Addr}(σ:St)(c:Tag×LO){b:Addr}(h:b≠a):upd σ a c b=σ b:=by simp[upd,h]
noncomputable def FR(P:Params)(φ:FZ):List (Str×LV)→List DictEntry→Prop
 |[],es=>es=[]
 |f::fs,es=>∃e r,es=e::r∧e.hash=PyData.keyHash P f.1∧(∃t,e.key=.str f.1 t)∧VR φ f.2 e.val∧FR P φ fs r
theorem FR.mono{P:Params}{φ aH:FZ}(x:Ext φ aH):∀ {fs:List (Str×LV)} {es:List DictEntry},FR P φ fs es→FR P aH fs es:=by
 intro ll
 induction ll with
 |nil =>
  rintro _ h;exact h
 |cons _ _ ih =>
  rintro _ ⟨e,r,h1,h2,h3,h4,h5⟩:_;exact⟨e,r,h1,h2,h3,h4.mono x,ih h5⟩
noncomputable def d9{K:Type}(φ:FZ):List (K×LV)→List (K×Value)→Prop
 |[],es=>es=[]
 |f::fs,es=>∃w r,es=(f.1,w)::r∧VR φ f.2 w∧d9 φ fs r
theorem d9.mono{K:Type}{φ aH:FZ}(x:Ext φ aH):∀ {fs:List (K×LV)} {es:List (K×Value)},d9 φ fs es→d9 aH fs es:=by
 intro ll
 induction ll with
 |nil =>
  rintro _ h;exact h
 |cons _ _ ih =>
  rintro _ ⟨w,r,h1,h2,h3⟩:_;exact⟨w,r,h1,h2.mono x,ih h3⟩
structure Gd where
 pg:Program
 w:World
 K:Frag
 hb:Heap
 mg:Str→Option Value
 mb:Str→Option Value
 deriving Nonempty
structure GP(G:Gd):Prop where
 KX:G.K.In G.hb
 g:G.hb.Ns mainGlobals G.mg
 b:G.hb.Ns builtinsNs G.mb
 builtins:∀x:Str,x≠"__name__"→G.mb x=bootBuiltins x
 nolimit:G.hb.NoLimit
 mods:∃o,G.hb.get? sysModules=some o
structure Sp(G:Gd)(φ:FZ):Prop where
 ok:GP G
 b:∀b o,G.hb.get? b=some o→φ b=some o
noncomputable def Gd.P(G:Gd):Params:=G.w.params
noncomputable abbrev Gd.M(G:Gd):Model:=model G.pg G.w
noncomputable def me(φ:FZ)(cv:Value)(q:Str):Prop:=∃c o vs t,cv=.ref c∧φ c=some o∧o.data=.fields vs∧vs[1]?=some (.str q t)
theorem me.mono{φ aH:FZ}(x:Ext φ aH){cv:Value}{q:Str}(h:me φ cv q):me aH cv q:=by
 obtain⟨c,o,vs,t,h1,h2,h3⟩:=h
 exact⟨c,o,vs,t,h1,x _ _ h2,h3⟩
noncomputable def OR(G:Gd)(φ:FZ)(σ:St)(h:Heap)(a:Addr):LO→Prop
 |.inst C dx fs=>h.get? a=some (instObj C dx)∧(∃t,σ dx=some (t,.dK a))∧∃es n,h.get? dx=some (dictOf es n)∧FR G.P φ fs es
 |.exc C d k=>(∃t,h.get? a=some (JL.dh C t d))∧∀dx,d=some dx→(∃t,σ dx=some (t,.dK a))∧∃es n,h.get? dx=some (dictOf es n)∧es.any (·.refKey)=false∧es.length≤k
 |.dK _=>∃o,h.get? a=some o
 |.list vs=>∃xs,h.PlainList a xs∧bg φ vs xs.toList
 |.dict es ep=>∃bf,h.DictAt (intKind G.pg G.w) a bf ep∧d9 φ es bf
 |.eC es=>∃bf,h.DictOf (strKind G.pg G.w) a bf∧d9 φ es bf
 |.eM b=>h.get? a=some {cls:=.type "bytearray",data:=.bytearray b.toArray 0}
 |.table q=>∃vs,h.get? a=some (tabObj vs)∧TriplesOk vs.toList∧∀ai cv,codeAmong ai vs.toList=some cv→me φ cv q
structure Rep(G:Gd)(φ:FZ)(σ:St)(h:Heap):Prop where
 base:Sp G φ
 fz:∀b o,φ b=some o→h.get? b=some o∧σ b=none
 ob:∀a t o,σ a=some (t,o)→OR G φ σ h a o
theorem OR.there:∀ {G:Gd} {φ:FZ} {σ:St} {h:Heap} {a:Addr} {o:LO} (x:OR G φ σ h a o),∃ob,h.get? a=some ob:=by
 rintro G φ σ h a:(_)
 rintro o:(_)
 w_up
 cases o with
 |inst C dx fs=>exact⟨_,x.1⟩
 |exc C d m=>obtain⟨⟨t,h1⟩,_⟩:=x;exact⟨_,h1⟩
 |dK y=>exact x
 |list vs=>obtain⟨xs,⟨n,ho⟩,_⟩:=x;exact⟨_,ho⟩
 |dict es ep=>obtain⟨bf,⟨o,_,ho,_⟩,_⟩:=x;exact⟨o,ho⟩
 |eC es=>obtain⟨bf,⟨o,_,_,ho,_⟩,_⟩:=x;exact⟨o,ho⟩
 |eM b=>exact⟨_,x⟩
 |table q=>obtain⟨vs,h,_⟩:=x;exact⟨_,h⟩
section
variable {G:Gd}{φ aH:FZ}{σ σ':St}{h h':Heap}{a:Addr}{t t':Tag}{o o':LO}
theorem Rep.Ej(R:Rep G φ σ h){b:Addr}{ob:Obj}(e:G.hb.get? b=some ob):h.get? b=some ob:=(R.fz _ _ (R.base.b _ _ e)).1
theorem Rep.K(R:Rep G φ σ h):G.K.In h:=R.base.ok.KX.keeps fun _ _ e=>R.Ej e
theorem Rep.nolimit(R:Rep G φ σ h):h.NoLimit:=R.base.ok.nolimit.keeps fun _ _ e=>R.Ej e
theorem Rep.g(R:Rep G φ σ h):h.Ns mainGlobals G.mg:=R.base.ok.g.keeps fun _ _ e=>R.Ej e
theorem Rep.b(R:Rep G φ σ h):h.Ns builtinsNs G.mb:=R.base.ok.b.keeps fun _ _ e=>R.Ej e
theorem Rep.gC(R:Rep G φ σ h){c:Tag×LO}(e:σ a=some c):(a==sysModules)=false:=by
 obtain⟨o,ho⟩:=R.base.ok.mods
 have:a≠sysModules:=fun z=>by
  have:=(R.fz _ _ (R.base.b _ _ ho)).2;rw[← z,e]at this;cases this
 simpa using this
theorem Rep.fresh(R:Rep G φ σ h)(e:h.get? a=none):φ a=none∧σ a=none:=by
 constructor
 ·cases q:φ a with
  |none=>rfl
  |some o=>have:=(R.fz _ _ q).1;nomatch e,this
 cases q:σ a with
 |none=>rfl
 |some c =>
  obtain⟨t,o⟩:=c;obtain⟨ob,ho⟩:=(R.ob _ _ _ q).there;nomatch e,ho
theorem OR.keeps:∀(k:∀b o,h.get? b=some o→h'.get? b=some o) (x:OR G φ σ h a o),OR G φ σ h' a o:=by
 revert G φ σ h h' a o
 rintro G φ σ h h' a o:(_)
 w_up
 cases o with
 |inst C dx fs=>obtain⟨h1,h2,es,n,h3,h4⟩:=x;exact⟨k _ _ h1,h2,es,n,k _ _ h3,h4⟩
 |exc C d m=>obtain⟨⟨t,h1⟩,h2⟩:=x;exact⟨⟨t,k _ _ h1⟩,fun dx e=>let⟨h3,es,n,h4,h5⟩:=h2 dx e;⟨h3,es,n,k _ _ h4,h5⟩⟩
 |dK y=>obtain⟨o,h1⟩:=x;exact⟨o,k _ _ h1⟩
 |list vs=>obtain⟨xs,⟨n,ho⟩,h2⟩:=x;exact⟨xs,⟨n,k _ _ ho⟩,h2⟩
 |dict es ep=>obtain⟨bf,⟨o,e,ho,r⟩,h2⟩:=x;exact⟨bf,⟨o,e,k _ _ ho,r⟩,h2⟩
 |eC es=>obtain⟨bf,⟨o,e,n,ho,r⟩,h2⟩:=x;exact⟨bf,⟨o,e,n,k _ _ ho,r⟩,h2⟩
 |eM b=>exact k _ _ x
 |table q=>obtain⟨vs,h1,h2⟩:=x;exact⟨vs,k _ _ h1,h2⟩
theorem OR.mono:∀(x:Ext φ aH) (y:OR G φ σ h a o),OR G aH σ h a o:=by
 revert G φ aH σ h a o
 rintro G φ aH σ h a o:(_)
 w_up
 cases o with
 |inst C dx fs=>obtain⟨h1,h2,es,n,h3,h4⟩:=y;exact⟨h1,h2,es,n,h3,h4.mono x⟩
 |exc C d m=>exact y
 |dK y'=>exact y
 |list vs=>obtain⟨xs,h1,h2⟩:=y;exact⟨xs,h1,h2.mono x⟩
 |dict es ep=>obtain⟨bf,h1,h2⟩:=y;exact⟨bf,h1,h2.mono x⟩
 |eC es=>obtain⟨bf,h1,h2⟩:=y;exact⟨bf,h1,h2.mono x⟩
 |eM b=>exact y
 |table q=>obtain⟨vs,h1,h2,h3⟩:=y;exact⟨vs,h1,h2,fun ai cv e=>(h3 ai cv e).mono x⟩
theorem OR.store(k:∀b t x,σ b=some (t,.dK x)→∃t',σ' b=some (t',.dK x))(y:OR G φ σ h a o):OR G φ σ' h a o:=by
 cases o with
 |inst C dx fs=>obtain⟨h1,⟨t,h2⟩,r⟩:=y;exact⟨h1,k _ _ _ h2,r⟩
 |exc C d m=>exact⟨y.1,fun dx e=>let⟨⟨t,h3⟩,h4⟩:=y.2 dx e;⟨k _ _ _ h3,h4⟩⟩
 |_=>exact y
theorem Rep.keeps(R:Rep G φ σ h)(k:∀b o,h.get? b=some o→h'.get? b=some o):Rep G φ σ h':=
 ⟨R.base,fun b o e=>⟨k _ _ (R.fz b o e).1,(R.fz b o e).2⟩,fun a t o e=>(R.ob a t o e).keeps k⟩
noncomputable def iQ(φ:FZ)(a:Addr)(ob:Obj):FZ:=fun b=>if b=a then some ob else φ b
theorem gZ(φ:FZ)(a:Addr)(ob:Obj):iQ φ a ob a=some ob:=by simp[iQ]
theorem i6(φ:FZ){a:Addr}(ob:Obj)(h:φ a=none):Ext φ (iQ φ a ob):=fun b o e=>by
 unfold iQ
 by_cases q:b=a
 ·subst q;nomatch h,e
 rw[aY q];exact e
theorem Rep.freeze(R:Rep G φ σ h){ob:Obj}(e:h.get? a=some ob)(h1:φ a=none)(h2:σ a=none):Rep G (iQ φ a ob) σ h:=
 ⟨⟨R.base.ok,fun b o q=>i6 φ ob h1 _ _ (R.base.b b o q)⟩,fun b o q=>by
  unfold iQ at q;by_cases z:b=a
  ·subst z;rw[bh rfl]at q;cases q;exact⟨e,h2⟩
  rw[aY z]at q;exact R.fz b o q,fun b t o q=>(R.ob b t o q).mono (i6 φ ob h1)⟩
theorem Rep.add(R:Rep G φ σ h)(h1:φ a=none)(h2:σ a=none)(x:OR G φ (upd σ a (t,o)) h a o):Rep G φ (upd σ a (t,o)) h:=by
 refine⟨R.base,fun b ob q=>⟨(R.fz b ob q).1,?_⟩,fun b t' o' q=>?_⟩
 ·by_cases z:b=a
  ·subst z;nomatch h1,q
  rw[av _ _ z];exact(R.fz b ob q).2
 by_cases z:b=a
 ·subst z;rw[aI]at q;cases q;exact x
 rw[av _ _ z]at q
 refine(R.ob b t' o' q).store fun c u y e=>⟨u,?_⟩
 rw[av];exact e
 intro z';subst z';nomatch h2,e
noncomputable def LO.s7:LO→Bool
 |.dK _=>true
 |_=>false
theorem OR.dx{dx a:Addr}{o:LO}{G:Gd}{φ:FZ}{σ:St}{h:Heap}(x:OR G φ σ h a o)(e:o.Ei=some dx):∃t,σ dx=some (t,.dK a):=by
 cases o with
 |inst C d fs=>cases e;exact x.2.1
 |exc C d m=>exact(x.2 dx e).1
 |_=>cases e
theorem OR.sameBut(hs:Heap.SameBut a h h'){b:Addr}(hb:b≠a)(hd:∀dx,o.Ei=some dx→dx≠a)(x:OR G φ σ h b o):OR G φ σ h' b o:=by
 revert hs hb hd x
 revert G φ σ h h' a o b
 rintro G φ σ h h' a o:(_)
 rintro b:(_)
 intro hs hb hd x
 cases o with
 |inst C dx fs=>obtain⟨h1,h2,es,n,h3,h4⟩:=x;exact⟨(hs.2 b hb).trans h1,h2,es,n,(hs.2 dx (hd _ rfl)).trans h3,h4⟩
 |exc C d m=>obtain⟨⟨t,h1⟩,h2⟩:=x;exact⟨⟨t,(hs.2 b hb).trans h1⟩,fun dx e=>let⟨h3,es,n,h4,h5⟩:=h2 dx e;⟨h3,es,n,(hs.2 dx (hd _ e)).trans h4,h5⟩⟩
 |dK y=>obtain⟨o,h1⟩:=x;exact⟨o,(hs.2 b hb).trans h1⟩
 |list vs=>obtain⟨xs,⟨n,ho⟩,h2⟩:=x;exact⟨xs,⟨n,(hs.2 b hb).trans ho⟩,h2⟩
 |dict es ep=>obtain⟨bf,⟨o,e,ho,r⟩,h2⟩:=x;exact⟨bf,⟨o,e,(hs.2 b hb).trans ho,r⟩,h2⟩
 |eC es=>obtain⟨bf,⟨o,e,n,ho,r⟩,h2⟩:=x;exact⟨bf,⟨o,e,n,(hs.2 b hb).trans ho,r⟩,h2⟩
 |eM b'=>exact(hs.2 b hb).trans x
 |table q=>obtain⟨vs,h1,h2⟩:=x;exact⟨vs,(hs.2 b hb).trans h1,h2⟩
theorem Rep.set:∀(R:Rep G φ σ h) (e:σ a=some (t,o)) (hi:o.s7=false) (Bm:o'.s7=false) (hs:Heap.SameBut a h h') (x:OR G φ (upd σ a (t',o')) h' a o'),Rep G φ (upd σ a (t',o')) h':=by
 revert G φ σ h h' a t t' o o'
 rintro G φ σ h h' a t t' o:(_)
 rintro o':(_)
 w_up
 refine⟨R.base,fun b ob q=>?_,fun b uh rJ q=>?_⟩
 ·have z:b≠a:=by first|exact Lake.cR ((R.fz b ob q).2) e|exact Lake.cD ((R.fz b ob q).2) e|exact Lake.iI ((R.fz b ob q).2) e rfl|exact Lake.fG ((R.fz b ob q).2) e rfl|exact(fun z=>by subst z;rw[(R.fz b ob q).2]at e;cases e)
  exact⟨(hs.2 b z).trans (R.fz b ob q).1,by rw[av _ _ z];exact(R.fz b ob q).2⟩
 by_cases z:b=a
 ·subst z;rw[aI]at q;cases q;exact x
 rw[av _ _ z]at q
 have y:=R.ob b uh rJ q
 have y':OR G φ σ h' b rJ:=y.sameBut hs z fun dx q'=>by
  obtain⟨u,h2⟩:=y.dx q';intro z';subst z';rw[e]at h2;cases h2;cases hi
 refine y'.store fun c u y e'=>⟨u,?_⟩
 rw[av];exact e'
 intro z';subst z';rw[e]at e';cases e';cases hi
theorem Rep.setField(R:Rep G φ σ h){C dx:Addr}{fs uR:List (Str×LV)}{mh:List DictEntry}{n':Nat}(e:σ a=some (t,.inst C dx fs))(hs:Heap.SameBut dx h h')
 (hd:h'.get? dx=some (dictOf mh n'))(hf:FR G.P φ uR mh):Rep G φ (upd σ a (t',.inst C dx uR)) h':=by
 revert R e hs hd hf
 revert G φ σ h h' a t t' C dx fs uR mh n'
 rintro G φ σ h h' a t t' C dx fs uR:(_)
 rintro mh n':(_)
 intro R e hs hd hf
 obtain⟨h1,⟨u,h2⟩,es,n,h3,h4⟩:=R.ob _ _ _ e
 have ne:a≠dx:=by first|exact Lake.cR h2 e|exact Lake.cD h2 e|exact Lake.iI h2 e rfl|exact Lake.fG h2 e rfl|exact(fun z=>by rw[z,h2]at e;cases e)
 refine⟨R.base,fun b ob q=>?_,fun b uh rJ q=>?_⟩
 ·have z:b≠a:=by first|exact Lake.cR ((R.fz b ob q).2) e|exact Lake.cD ((R.fz b ob q).2) e|exact Lake.iI ((R.fz b ob q).2) e rfl|exact Lake.fG ((R.fz b ob q).2) e rfl|exact(fun z=>by subst z;rw[(R.fz b ob q).2]at e;cases e)
  have z':b≠dx:=by first|exact Lake.cR ((R.fz b ob q).2) h2|exact Lake.cD ((R.fz b ob q).2) h2|exact Lake.iI ((R.fz b ob q).2) h2 rfl|exact Lake.fG ((R.fz b ob q).2) h2 rfl|exact(fun z=>by subst z;rw[(R.fz b ob q).2]at h2;cases h2)
  exact⟨(hs.2 b z').trans (R.fz b ob q).1,by rw[av _ _ z];exact(R.fz b ob q).2⟩
 by_cases z:b=a
 ·subst z;nomatch aI,q;exact⟨(hs.2 b ne).trans h1,⟨u,by rw[av _ _ (Ne.symm ne)];exact h2⟩,mh,n',hd,hf⟩
 rw[av _ _ z]at q
 have y:=R.ob b uh rJ q
 have st:∀c Cr x,σ c=some (Cr,LO.dK x)→∃t',upd σ a (t',.inst C dx uR) c=some (t',.dK x)∨upd σ a (t',.inst C dx uR) c=some (Cr,.dK x):=fun c Cr x e'=>⟨Cr,.inr (by
  rw[av];exact e';intro z';subst z';nomatch e,e')⟩
 by_cases zd:b=dx
 ·subst zd;rw[h2]at q;cases q;exact⟨_,hd⟩
 have y':OR G φ σ h' b rJ:=y.sameBut hs zd fun mi q'=>by
  obtain⟨u',rK⟩:=y.dx q';intro z';subst z';rw[h2]at rK;cases rK;exact z rfl
 refine y'.store fun c u y e'=>⟨u,?_⟩
 rw[av];exact e'
 intro z';subst z';nomatch e,e'
end
end Lake
end
variable {G:Lake.Gd}{Q Q':Lake.LV→Lake.St→Prop}{vs az aw:List Lake.LV}{v:Lake.LV}{t t' u:Lake.Tag}{φ aH cC:Lake.FZ}{σ σ':Lake.St}{o':Lake.LO}{fs:List (Str×Lake.LV)}{mh es:List (Int×Lake.LV)}{src:Lake.St→Prop}{Out:List Lake.LV→Lake.St→Prop}{Qp:List (Str×Lake.LV)→Lake.St→Prop}
section
namespace Lake
structure Ctx where
 A:Around
 bA:List Env
 own:List Addr
 out:List Addr
 deriving Nonempty
noncomputable def Ctx.pv(c:Ctx):List Addr:=c.own++c.out
structure dM(n:Nat)(c:Ctx):Prop where
 frames:c.A.frames=some c.bA
 handled:c.A.handled=none
 depth:c.A.depth+10*n≤990
 units:c.A.units+20*n≤9800
noncomputable def Fm(o:Obj):Prop:=∃es n,o.data=.dict es n
theorem Fm.nf{o:Obj}(h:Fm o)(vs:Array Value):o.data≠.fields vs:=by obtain⟨es,n,e⟩:=h;rw[e];exact fun z=>by cases z
theorem Fm.of{o o':Obj}(h:Fm o)(e:o'.data=o.data):Fm o':=by obtain⟨es,n,h⟩:=h;exact⟨es,n,e.trans h⟩
noncomputable def gP(bA:List Env)(pv:List Addr)(h:Heap):Prop:=
 ∀aa∈bA,aa.scope.kind≠.module∧∃L o,aa.frame=some L∧L∈pv∧h.get? L=some o∧Fm o
noncomputable def PK(o o':Obj):Prop:=o'=o∨(Fm o∧∃sl,o'={o with slots:=sl})
theorem PK.data{o o':Obj}(h:PK o o'):o'.data=o.data:=by rcases h with rfl|⟨_,sl,rfl⟩<;>rfl
theorem PK.trans:∀ {o o' Ek:Obj} (h:PK o o') (k:PK o' Ek),PK o Ek:=by
 rintro o o' Ek:(_)
 w_up
 rcases h with rfl|hK
 ·exact k
 obtain⟨a,sl,rfl⟩:=hK
 rcases k with rfl|hK
 ·exact .inr ⟨a,sl,rfl⟩
 obtain⟨_,U1,rfl⟩:=hK
 exact .inr ⟨a,U1,rfl⟩
noncomputable def eH(P:List Addr)(h h':Heap):Prop:=∀b∈P,∀o,h.get? b=some o→∃o',h'.get? b=some o'∧PK o o'
theorem eH.refl(P:List Addr)(h:Heap):eH P h h:=fun _ _ o e=>⟨o,e,.inl rfl⟩
theorem eH.trans{P:List Addr}{h eN:Heap}(x:eH P h h')(y:eH P h' eN):eH P h eN:=fun b hb o e =>
 let⟨o',e',d⟩:=x b hb o e
 let⟨Ek,El,d'⟩:=y b hb o' e'
 ⟨Ek,El,d.trans d'⟩
theorem eH.mono{P:List Addr}{h:Heap}(x:eH P h h')(k:∀b∈P',b∈P):eH P' h h':=fun b hb=>x b (k b hb)
theorem eH.keeps{P:List Addr}{h:Heap}(k:∀b o,h.get? b=some o→h'.get? b=some o):eH P h h':=fun b _ o e=>⟨o,k b o e,.inl rfl⟩
theorem eH.sameBut{P:List Addr}{h:Heap}(hs:Heap.SameBut a h h')(ha:a∉P):eH P h h':=
 fun b hb o e=>⟨o,(hs.2 b fun z=>ha (z▸hb)).trans e,.inl rfl⟩
theorem gP.of{bA:List Env}{pv:List Addr}{h:Heap}(x:gP bA pv h)(k:eH pv h h'):gP bA pv h':=fun aa he=>by
 obtain⟨h1,L,o,h2,h3,h4,h5⟩:=x aa he
 obtain⟨o',e,d⟩:=k L h3 o h4
 exact⟨h1,L,o',h2,h3,e,h5.of d.data⟩
structure At(φ:FZ)(s:aG)(σ:St)(c:Ctx)(G:Gd):Prop where
 rep:Rep G φ σ s.heap
 pv:∀b∈c.pv,φ b=none∧σ b=none∧(∃o,s.heap.get? b=some o∧(Fm o→∀vs,o.data≠.fields vs))
 bA:gP c.bA c.pv s.heap
 gens:s.gens=#[]
structure aV(G:Gd)(c:Ctx)(P:List Addr)(s:aG)(φ:FZ)(s':aG)(aH:FZ)(σ':St):Prop where
 at_:At aH s' σ' c G
 ext:Ext φ aH
 bT:eH P s.heap s'.heap
 os:s'.os=s.os
theorem aV.refl{G:Gd}{c:Ctx}{P:List Addr}{s:aG}{φ:FZ}{σ:St}(h:At φ s σ c G):aV G c P s φ s φ σ:=⟨h,.refl _,.refl _ _,rfl⟩
theorem aV.trans{oY:St}{eR:FZ}{bQ s':aG}{aH:FZ}{σ':St}{s:aG}{φ:FZ}{G:Gd}{c:Ctx}{P:List Addr}(x:aV G c P s φ s' aH σ')(y:aV G c P s' aH bQ eR oY):aV G c P s φ bQ eR oY:=
 ⟨y.at_,x.ext.trans y.ext,x.bT.trans y.bT,y.os.trans x.os⟩
theorem aV.mono{c:Ctx}{P:List Addr}(x:aV G c P s φ s' aH σ')(k:∀b∈P',b∈P):aV G c P' s φ s' aH σ':=
 ⟨x.at_,x.ext,x.bT.mono k,x.os⟩
structure EP where
 fr:Bool
 Q:Addr→St→Prop
 deriving Nonempty
noncomputable def b0:EP:=⟨false,fun _ _=>False⟩
noncomputable def QC(c:Ctx)(B:Heap)(a:Addr)(C t:Addr)(h:Heap)(fr:Bool):Prop:=
 Heap.FlyingW B c.bA a (.ref C) (.ref t) h∨(∃aa outer L,c.bA=aa::outer∧aa.frame=some L∧Heap.HeldW B c.bA a (.ref C) (.ref t) L h)∨
  (fr=true∧B.StaysIn h∧B.get? a=none∧h.FunFrames B c.bA∧∃oe vs,h.get? a=some oe∧oe.cls=.ref C∧oe.data=.fields vs∧vs[0]?=some (.ref t)∧vs[1]?=some .none)
structure qk(G:Gd)(c:Ctx)(P:List Addr)(s:aG)(φ:FZ)(B:Heap)(aH:FZ)(σ':St)(s':aG):Prop where
 rep:Rep G aH σ' B
 stays:B.StaysIn s'.heap
 pv:∀b∈c.pv,aH b=none∧σ' b=none∧(∃o,s'.heap.get? b=some o∧(Fm o→∀vs,o.data≠.fields vs))∧∀o,s'.heap.get? b=some o→¬Fm o→B.get? b=some o
 ext:Ext φ aH
 bT:eH P s.heap s'.heap
 bA:gP c.bA c.pv s'.heap
 os:s'.os=s.os
 gens:s'.gens=#[]
inductive cH(G:Gd)(c:Ctx)(P:List Addr)(s:aG)(φ:FZ)(ep:EP)(e:Value)(s':aG):Prop where
 |mk (a C t:Addr) (B:Heap) (aH:FZ) (σ':St) (h1:e=.ref a) (h2:qk G c P s φ B aH σ' s') (h3:ep.Q C σ') (h4:QC c B a C t s'.heap ep.fr)
inductive bG{α β:Type}(G:Gd)(c:Ctx)(P:List Addr)(rel:FZ→β→α→Prop)(s₀:aG)(cC:FZ)(Q:β→St→Prop)(v:α)(s':aG):Prop where
 |mk (aH:FZ) (σ':St) (lv:β) (S:aV G c P s₀ cC s' aH σ') (r:rel aH lv v) (q:Q lv σ')
theorem qk.up{c:Ctx}{P:List Addr}{bQ:aG}{eR:FZ}{oY:St}{B:Heap}(x:aV G c P s φ s' aH σ')(y:qk G c P s' aH B eR oY bQ):qk G c P s φ B eR oY bQ:=
 ⟨y.rep,y.stays,y.pv,x.ext.trans y.ext,x.bT.trans y.bT,y.bA,y.os.trans x.os,y.gens⟩
theorem cH.up{e:Value}{bQ:aG}{c:Ctx}{P:List Addr}{ep:EP}(x:aV G c P s φ s' aH σ')(y:cH G c P s' aH ep e bQ):cH G c P s φ ep e bQ:=by
 obtain⟨a,C,t,B,bp,ae,h1,h2,h3,h4⟩:=y
 exact⟨a,C,t,B,bp,ae,h1,h2.up x,h3,h4⟩
theorem cH.mono{c:Ctx}{P:List Addr}{ep mE:EP}{e:Value}(y:cH G c P s φ ep e s')(k:∀b∈P',b∈P)(hf:ep.fr=true→mE.fr=true)(hq:∀C σ,ep.Q C σ→mE.Q C σ):cH G c P' s φ mE e s':=by
 obtain⟨a,C,t,B,bp,ae,h1,h2,h3,h4⟩:=y
 refine⟨a,C,t,B,bp,ae,h1,⟨h2.rep,h2.stays,h2.pv,h2.ext,h2.bT.mono k,h2.bA,h2.os,h2.gens⟩,hq _ _ h3,?_⟩
 rcases h4 with h|h|h
 ·exact .inl h
 ·exact .inr (.inl h)
 exact .inr (.inr ⟨hf h.1,h.2⟩)
theorem eH.slots{P:List Addr}{h B:Heap}(hp:∀b∈P,(∃o,h.get? b=some o∧(Fm o→∀vs,o.data≠.fields vs))∧∀o,h.get? b=some o→¬Fm o→B.get? b=some o)(k:h.UpToSlots h')(kB:B.StaysIn h'):eH P h h':=fun b hb o e=>by
 obtain⟨⟨o',e',hd⟩,hB⟩:=hp b hb
 nomatch e,e'
 by_cases z:Fm o
 ·obtain⟨sl,El⟩:=k b o e (hd z);exact⟨_,El,.inr ⟨z,sl,rfl⟩⟩
 exact⟨o,kB b o (hB o e z),.inl rfl⟩
theorem qk.turn{c:Ctx}{P:List Addr}{B:Heap}(hP:∀b∈P,b∈c.pv)(y:qk G c P s φ B aH σ' s')(kB:B.StaysIn h')(k:s'.heap.UpToSlots h'):qk G c P s φ B aH σ' {s' with heap:=h'}:=by
 have pk:eH c.pv s'.heap h':=eH.slots (fun b hb=>(y.pv b hb).2.2) k kB
 refine⟨y.rep,kB,fun b hb=>⟨(y.pv b hb).1,(y.pv b hb).2.1,?_⟩,y.ext,y.bT.trans (pk.mono hP),y.bA.of pk,y.os,y.gens⟩
 obtain⟨⟨o,ho,hd⟩,hB⟩:=(y.pv b hb).2.2
 obtain⟨o',eD,dJ⟩:=pk b hb o ho
 refine⟨⟨o',eD,fun z vs=>by rw[dJ.data];exact hd (z.of dJ.data.symm) vs⟩,fun yU aN z=>?_⟩
 have aN:h'.get? b=some yU:=aN
 nomatch eD,aN
 rcases dJ with rfl|hK
 ·exact hB _ ho z
 obtain⟨z',sl,rfl⟩:=hK
 exact absurd z' z
section
variable {M:Model}{A:Around}{G:Gd}{c:Ctx}{P:List Addr}{α β:Type}{rel:FZ→β→α→Prop}{t:Sem α}{s₀ s:aG}{cC:FZ}{Q:β→St→Prop}{Q':α→aG→Prop}{E E':bN}
theorem bG.el{v:α}{H:Prop}(x:bG G c P rel s₀ cC Q v s')(k:∀aH σ' lv,aV G c P s₀ cC s' aH σ'→rel aH lv v→Q lv σ'→H):H:=by cases x with|mk a b d S r q=>exact k a b d S r q
theorem bG.go{α β:Type}{rel:FZ→β→α→Prop}{cC:FZ}{s₀ s:aG}{M:Model}{A:Around}{G:Gd}{c:Ctx}{P:List Addr}{E:bN}{t:Sem α}{E':bN}{Q:β→St→Prop}{Q':α→aG→Prop}(h:wpAny M A s E t (bG G c P rel s₀ cC Q))(k:∀v s' aH σ' lv,aV G c P s₀ cC s' aH σ'→rel aH lv v→Q lv σ'→Q' v s')(e:∀e s',E e s'→E' e s'):wpAny M A s E' t Q':=aL h (fun v s' x=>x.el (k v s')) e
theorem bG.gg{α β:Type}{rel:FZ→β→α→Prop}{s₀ s:aG}{cC:FZ}{A:Around}{G:Gd}{c:Ctx}{P:List Addr}{M:Model}{E:bN}{t:Sem α}{Q':α→aG→Prop}{Q:β→St→Prop}(h:wpAny M A s E t (bG G c P rel s₀ cC Q))(k:∀v s' aH σ' lv,aV G c P s₀ cC s' aH σ'→rel aH lv v→Q lv σ'→Q' v s'):wpAny M A s E t Q':=bG.go h k fun _ _ e=>e
theorem bG.iW{s₀ s:aG}{cC:FZ}{ah:St}{α β:Type}{rel:FZ→β→α→Prop}{aX:FZ}{M:Model}{A:Around}{G:Gd}{c:Ctx}{P:List Addr}(S:aV G c P' aj aX s₀ cC ah){t:Sem α}{ep:EP}{Q:β→St→Prop}{Q':α→aG→Prop}(h:wpAny M A s (cH G c P' s₀ cC ep) t (bG G c P rel s₀ cC Q))(k:∀v s' aH σ' lv,aV G c P s₀ cC s' aH σ'→rel aH lv v→Q lv σ'→Q' v s'):wpAny M A s (cH G c P' aj aX ep) t Q':=bG.go h k fun _ _ e=>e.up S
end
noncomputable def TB{α β:Type}(rel:FZ→β→α→Prop)(s₀ s:aG)(cC:FZ)(G:Gd)(c:Ctx)(P:List Addr)(ep:EP)(t:Sem α)(Q:β→St→Prop):Prop:=
 wpAny G.M c.A s (cH G c P s₀ cC ep) t (bG G c P rel s₀ cC Q)
theorem TB.up{rel:FZ→β→α→Prop}{c:Ctx}{P:List Addr}{Q:β→St→Prop}{ep:EP}(x:aV G c P s₀ cC s φ σ){t:Sem α}(h:TB rel s s φ G c P ep t Q):TB rel s₀ s cC G c P ep t Q:=
 bG.iW x h fun _ _ aH σ' lv a b d=>⟨aH,σ',lv,x.trans a,b,d⟩
noncomputable def GQ:FZ→Unit→Unit→Prop:=fun _ _ _=>True
noncomputable def Lp:FZ→Bool→Bool→Prop:=fun _ a b=>b=a
noncomputable def T(G:Gd)(c:Ctx){α β:Type}(rel:FZ→β→α→Prop)(t:Sem α)(φ:FZ)(s:aG)(Q:β→St→Prop)(ep:EP):Prop:=TB rel s s φ G c c.pv ep t Q
section
variable {G:Gd}{c:Ctx}{P:List Addr}{α β γ δ:Type}{rel:FZ→β→α→Prop}{Y4:FZ→δ→γ→Prop}{t:Sem α}{k:α→Sem γ}{s s₀:aG}{φ cC:FZ}{σ:St}{Q Q':β→St→Prop}{Y5:δ→St→Prop}{ep mE:EP}
theorem TB.mono(h:TB rel s s φ G c P ep t Q)(hq:∀lv σ,Q lv σ→Q' lv σ)(hf:ep.fr=true→mE.fr=true)(he:∀C σ,ep.Q C σ→mE.Q C σ):TB rel s s φ G c P mE t Q':=
 bG.go h (fun _ _ aH σ' lv a b d=>⟨aH,σ',lv,a,b,hq _ _ d⟩) fun _ _ e=>e.mono (fun _ h=>h) hf he
end
section
variable {G:Gd}{c:Ctx}{P:List Addr}{φ:FZ}{σ σ':St}{s:aG}
theorem At.toks(h:At φ s σ c G)(n:Nat):At φ {s with toks:=n} σ c G:=⟨h.rep,h.pv,h.bA,h.gens⟩
theorem aV.toks(h:At φ s σ c G)(n:Nat):aV G c P s φ {s with toks:=n} φ σ:=⟨h.toks n,.refl _,.refl _ _,rfl⟩
theorem aV.tok(h:At φ s σ c G):aV G c P s φ {s with toks:=s.toks+1} φ σ:=aV.toks h _
theorem At.fresh(h:At φ s σ c G)(e:s.heap.get? a=none):φ a=none∧σ a=none∧a∉c.pv:=⟨(h.rep.fresh e).1,(h.rep.fresh e).2,fun hm=>by
 obtain⟨o,ho,_⟩:=(h.pv a hm).2.2;nomatch e,ho⟩
theorem At.keeps(h:At φ s σ c G){n:Nat}(k:∀b o,s.heap.get? b=some o→h'.get? b=some o):At φ {s with heap:=h',toks:=n} σ c G:=
 ⟨h.rep.keeps k,fun b hb=>⟨(h.pv b hb).1,(h.pv b hb).2.1,let⟨o,ho,hd⟩:=(h.pv b hb).2.2;⟨o,k b o ho,hd⟩⟩,h.bA.of (.keeps k),h.gens⟩
theorem aV.keeps(h:At φ s σ c G){n:Nat}(k:∀b o,s.heap.get? b=some o→h'.get? b=some o):aV G c P s φ {s with heap:=h',toks:=n} φ σ:=
 ⟨h.keeps k,.refl _,.keeps k,rfl⟩
theorem At.same(h:At φ s σ c G){n:Nat}(na:a∉c.pv)(hs:Heap.SameBut a s.heap h')(R:Rep G φ σ' h')(k:∀b∈c.pv,σ' b=none) :
  aV G c c.pv s φ {s with heap:=h',toks:=n} φ σ':=by
 have ne:∀b∈c.pv,b≠a:=fun b hb z=>na (z▸hb)
 refine⟨⟨R,fun b hb=>⟨(h.pv b hb).1,k b hb,?_⟩,h.bA.of (.sameBut hs na),h.gens⟩,.refl _,.sameBut hs na,rfl⟩
 obtain⟨o,ho,hd⟩:=(h.pv b hb).2.2;exact⟨o,(hs.2 b (ne b hb)).trans ho,hd⟩
theorem At.mM(h:At φ s σ c G){x:Tag×LO}(e:σ a=some x):a∉c.pv:=fun hm=>by nomatch((h.pv a hm).2.1),e
theorem aV.set(h:At φ s σ c G){o:LO}{n:Nat}(e:σ a=some (t,o))(hi:o.s7=false)(Bm:o'.s7=false)(hs:Heap.SameBut a s.heap h')
 (x:OR G φ (upd σ a (t',o')) h' a o'):aV G c c.pv s φ {s with heap:=h',toks:=n} φ (upd σ a (t',o')):=
 h.same (h.mM e) hs (h.rep.set e hi Bm hs x) fun b hb=>by
  rw[av _ _ (fun z:b=a=>h.mM e (z▸hb))];exact(h.pv b hb).2.1
theorem aV.setField(h:At φ s σ c G){dx:Addr}{uR:List (Str×LV)}{mh:List DictEntry}{n':Nat}{n:Nat}(e:σ a=some (t,.inst C dx fs))(hs:Heap.SameBut dx s.heap h')
 (hd:h'.get? dx=some (dictOf mh n'))(hf:FR G.P φ uR mh):aV G c c.pv s φ {s with heap:=h',toks:=n} φ (upd σ a (t',.inst C dx uR)):=by
 obtain⟨_,⟨u,h2⟩,_⟩:=h.rep.ob _ _ _ e
 exact h.same (h.mM h2) hs (h.rep.setField e hs hd hf) fun b hb=>by
  rw[av _ _ (fun z:b=a=>h.mM e (z▸hb))];exact(h.pv b hb).2.1
theorem aV.add(h:At φ s σ c G){o:LO}{n:Nat}(k:∀b ob,s.heap.get? b=some ob→h'.get? b=some ob)(hn:s.heap.get? a=none)
 (x:OR G φ (upd σ a (t,o)) h' a o):aV G c c.pv s φ {s with heap:=h',toks:=n} φ (upd σ a (t,o)):=by
 obtain⟨f1,f2,f3⟩:=h.fresh hn
 have A:=h.keeps (n:=n) k
 exact⟨⟨A.rep.add f1 f2 x,fun b hb=>⟨(A.pv b hb).1,by rw[av _ _ (fun z:b=a=>f3 (z▸hb))];exact(A.pv b hb).2.1,(A.pv b hb).2.2⟩,A.bA,A.gens⟩,.refl _,.keeps k,rfl⟩
theorem aV.freeze(h:At φ s σ c G){ob:Obj}{n:Nat}(k:∀b ob,s.heap.get? b=some ob→h'.get? b=some ob)(hn:s.heap.get? a=none)
 (x:h'.get? a=some ob):aV G c c.pv s φ {s with heap:=h',toks:=n} (iQ φ a ob) σ:=by
 obtain⟨f1,f2,f3⟩:=h.fresh hn
 have A:=h.keeps (n:=n) k
 exact⟨⟨A.rep.freeze x f1 f2,fun b hb=>⟨by unfold iQ;rw[aY (fun z:b=a=>f3 (z▸hb))];exact(A.pv b hb).1,(A.pv b hb).2⟩,A.bA,A.gens⟩,i6 φ ob f1,.keeps k,rfl⟩
theorem bC(h:Heap):h.get? h.objs.size=none:=jz (fg _)
theorem cF(h:Heap)(o:Obj):∀b ob,h.get? b=some ob→(h.push o).get? b=some ob:=fun _ _ e=>fb _ e
end
noncomputable abbrev Loc:=Str→Option LV
noncomputable def Loc.put(x:Str)(ρ:Loc)(v:LV):Loc:=fun y=>if y=x then some v else ρ y
structure cV(aa:Env)(c:Ctx)(ρ:Loc)(φ:FZ)(h:Heap):Prop where
 fn:aa.scope.kind=.function
 gl:aa.globals=mainGlobals
 bi:aa.builtins=builtinsNs
 loc:aa.locals∈c.own
 ns:∃m,h.Ns aa.locals m∧∀x v,ρ x=some v→aa.kindOf x=some .local→∃w,m x=some w∧VR φ v w
 sep:∀b∈c.own,b∉c.out
 inj:∀x y a,aa.cells.lookup x=some a→aa.cells.lookup y=some a→x=y
 cl:∀x a,aa.cells.lookup x=some a→a∈c.pv∧∃cv,h.IsCell a cv∧∀v,ρ x=some v→(aa.kindOf x=some .cell∨aa.kindOf x=some .free)→∃w,cv=some w∧VR φ v w
theorem Ns.bT{P:List Addr}{h:Heap}(k:eH P h h')(ha:a∈P)(x:h.Ns a m):h'.Ns a m:=by
 obtain⟨o,es,ep,ho,hd,r⟩:=x
 obtain⟨o',eD,dJ⟩:=k a ha o ho
 exact⟨o',es,ep,eD,dJ.data.trans hd,r⟩
theorem IsCell.bT{P:List Addr}{h:Heap}{m:Option Value}(k:eH P h h')(ha:a∈P)(x:h.IsCell a m):h'.IsCell a m:=by
 obtain⟨o,ho,hd⟩:=x
 obtain⟨o',eD,dJ⟩:=k a ha o ho
 exact⟨o',eD,dJ.data.trans hd⟩
theorem Ctx.yV{c:Ctx}(h:a∈c.own):a∈c.pv:=ik _ h
theorem Ctx.rL{c:Ctx}(h:a∈c.out):a∈c.pv:=il _ h
theorem cV.step{aH:FZ}{h':Heap}{φ:FZ}{h:Heap}{aa:Env}{c:Ctx}{ρ:Loc}(F:cV aa c ρ φ h)(x:Ext φ aH)(k:eH c.pv h h'):cV aa c ρ aH h':=by
 refine⟨F.fn,F.gl,F.bi,F.loc,?_,F.sep,F.inj,fun x' a e=>?_⟩
 ·obtain⟨m,hn,hm⟩:=F.ns;exact⟨m,Ns.bT k (Ctx.yV F.loc) hn,fun y v e1 e2=>let⟨w,h1,h2⟩:=hm y v e1 e2;⟨w,h1,h2.mono x⟩⟩
 obtain⟨h1,cv,h2,h3⟩:=F.cl x' a e
 exact⟨h1,cv,IsCell.bT k h1 h2,fun v e1 e2=>let⟨w,h4,h5⟩:=h3 v e1 e2;⟨w,h4,h5.mono x⟩⟩
structure Fx where
 G:Gd
 c:Ctx
 aa:Env
 n:Nat
 deriving Nonempty
noncomputable def ET(ep:EP)(X:Fx)(ρ:Loc)(σ:St)(e:Expr)(Q:LV→St→Prop):Prop:=
 dM X.n X.c→∀φ s,At φ s σ X.c X.G→cV X.aa X.c ρ φ s.heap→TB VR s s φ X.G X.c X.c.pv ep (eval e X.aa) Q
noncomputable def O2(σ:St)(b:LV)(ep:EP)(X:Fx)(Q:LV→St→Prop)(op:Value→Value→Sem Value)(a:LV):Prop:=
 dM X.n X.c→∀φ s va vb,At φ s σ X.c X.G→VR φ a va→VR φ b vb→TB VR s s φ X.G X.c X.c.pv ep (op va vb) Q
noncomputable def O1(X:Fx)(op:Value→Sem Value)(a:LV)(σ:St)(Q:LV→St→Prop)(ep:EP):Prop:=
 dM X.n X.c→∀φ s va,At φ s σ X.c X.G→VR φ a va→TB VR s s φ X.G X.c X.c.pv ep (op va) Q
noncomputable def OB(op:Value→Sem Bool)(σ:St)(a:LV)(ep:EP)(X:Fx)(Q:Bool→St→Prop):Prop:=
 dM X.n X.c→∀φ s va,At φ s σ X.c X.G→VR φ a va→TB Lp s s φ X.G X.c X.c.pv ep (op va) Q
noncomputable def IT(ep:EP)(X:Fx)(σ:St)(ρ:Loc)(Q:Bool→St→Prop)(e:Expr):Prop:=
 dM X.n X.c→∀φ s,At φ s σ X.c X.G→cV X.aa X.c ρ φ s.heap→TB Lp s s φ X.G X.c X.c.pv ep (isTrue e X.aa (eval e X.aa)) Q
noncomputable def Br(b:Bool)(p q:Prop):Prop:=(b=true→p)∧(b=false→q)
section
variable {X:Fx}{ρ:Loc}{σ:St}{Q:LV→St→Prop}{QB:Bool→St→Prop}{ep:EP}
theorem U4{k:Nat}{ep:EP}{i:Int}{X:Fx}{ρ:Loc}{σ:St}{ai:Pos}{Q:LV→St→Prop}(h:Q (.int i) σ):ET ep X ρ σ (.Constant (.int i) k ai) Q:=fun _ φ s hA _ =>
 aD (wpAny_Constant_int ⟨φ,σ,.int i,aV.tok hA,⟨_,rfl⟩,h⟩)
theorem JN{b:Bool}{ep:EP}{X:Fx}{ρ:Loc}{σ:St}{Q:LV→St→Prop}{ai:Pos}(h:Q (.bool b) σ):ET ep X ρ σ (.Constant (.bool b) k ai) Q:=fun _ φ s hA _ =>
 aD (Constant_bool ⟨φ,σ,.bool b,.refl hA,rfl,h⟩)
theorem UD{ep:EP}{X:Fx}{ρ:Loc}{σ:St}{Q:LV→St→Prop}{ai:Pos}(h:Q .none σ):ET ep X ρ σ (.Constant .none k ai) Q:=fun _ φ s hA _ =>
 aD (Constant_none ⟨φ,σ,.none,.refl hA,rfl,h⟩)
theorem U6{k:Nat}{ep:EP}{x:Str}{ai:Pos}{X:Fx}{ρ:Loc}{σ:St}{Q:LV→St→Prop}(h:Q (.str x) σ):ET ep X ρ σ (.Constant (.str x) k ai) Q:=fun _ φ s hA _=>by
 show wpAny _ _ _ _ (mkText x) _
 exact aD (wpAny_mkText ⟨φ,σ,.str x,aV.tok hA,⟨_,rfl⟩,h⟩)
theorem Sq{x:bc}{ai:Pos}(h:Q (.bX x) σ):ET ep X ρ σ (.Constant (.bytes x) k ai) Q:=fun _ φ s hA _=>by
 show wpAny _ _ _ _ (mkTextBytes x.toArray) _
 exact(show wpAny _ _ _ _ (do return Value.bytes x.toArray (← fresh)) _ from leaf (wpAny_fresh (ao ⟨φ,σ,.bX x,aV.tok hA,⟨_,rfl⟩,h⟩)))
theorem yW{ai:Pos}(hk:X.aa.kindOf x=some .local)(hv:ρ x=some v)(h:Q v σ)(hd:autoParam ((x==("__debug__" : Str))=false) Jm.a1):ET ep X ρ σ (.Name x ai) Q:=fun _ φ s hA hF=>by
 obtain⟨m,hn,hm⟩:=hF.ns
 obtain⟨w,h1,h2⟩:=hm x v hv hk
 exact aD (wpAny_Name (wpAny_loadName_local hF.fn hk hn h1 ⟨φ,σ,v,.refl hA,h2,h⟩) hd)
theorem JQ{ai:Pos}(hk:X.aa.kindOf x=some .cell)(ha:X.aa.cells.lookup x=some a)(hv:ρ x=some v)(h:Q v σ)(hd:autoParam ((x==("__debug__" : Str))=false) Jm.a1):ET ep X ρ σ (.Name x ai) Q:=fun _ φ s hA hF=>by
 obtain⟨_,cv,h1,h2⟩:=hF.cl x a ha
 obtain⟨w,rfl,h3⟩:=h2 v hv (.inl hk)
 exact aD (wpAny_Name (wpAny_loadName_cell hF.fn hk ha h1 ⟨φ,σ,v,.refl hA,h3,h⟩) hd)
theorem JR{ai:Pos}(hk:X.aa.kindOf x=some .free)(ha:X.aa.cells.lookup x=some a)(hv:ρ x=some v)(h:Q v σ)(hd:autoParam ((x==("__debug__" : Str))=false) Jm.a1)
 (hn:autoParam ((x==("__classdict__" : Str))=false) Jm.a1):ET ep X ρ σ (.Name x ai) Q:=fun _ φ s hA hF=>by
 obtain⟨_,cv,h1,h2⟩:=hF.cl x a ha
 obtain⟨w,rfl,h3⟩:=h2 v hv (.inr hk)
 exact aD (wpAny_Name (wpAny_loadName_free hF.fn hk ha h1 ⟨φ,σ,v,.refl hA,h3,h⟩ hn) hd)
theorem rM{ai:Pos}{v:Value}{lv:LV}(hk:X.aa.kindOf x=some .globalImplicit)(hg:X.G.mg x=some v)(hl:∀φ,VR φ lv v)(h:Q lv σ)(hd:autoParam ((x==("__debug__" : Str))=false) Jm.a1):ET ep X ρ σ (.Name x ai) Q:=fun _ φ s hA hF =>
 aD (Name_function_global hF.fn hk (loadGlobal_global (by rw[hF.gl];exact hA.rep.g) hg ⟨φ,σ,lv,.refl hA,hl φ,h⟩) hd)
theorem ji{ai:Pos}{v:Value}(hk:X.aa.kindOf x=some .globalImplicit)(hg:X.G.mg x=none)(hb:bootBuiltins x=some v)(hn:x≠"__name__")(h:Q (.con v) σ)(hd:autoParam ((x==("__debug__" : Str))=false) Jm.a1):ET ep X ρ σ (.Name x ai) Q:=fun _ φ s hA hF =>
 aD (Name_function_global hF.fn hk (loadGlobal_builtin (by rw[hF.gl];exact hA.rep.g) hg (by rw[hF.bi];exact hA.rep.b) ((hA.rep.base.ok.builtins x hn).trans hb) ⟨φ,σ,.con v,.refl hA,rfl,h⟩) hd)
theorem Lq{l r:Expr}{op:Operator}{ai:Pos}(h:ET ep X ρ σ l (fun a ah=>ET ep X ρ ah r (fun b ae=>O2 ae b ep X Q (binaryOp op) a))):ET ep X ρ σ (.BinOp l op r ai) Q:=fun hc φ s hA hF=>by
 refine AV (bG.gg (h hc φ s hA hF) (fun va aj aX ah a ax ra aN=>?_))
 refine bG.iW ax (aN hc aX aj ax.at_ (hF.step ax.ext ax.bT)) (fun vb aO bp ae b aP rb bE=>?_)
 exact(bE hc bp aO va vb aP.at_ (ra.mono aP.ext) rb).up (ax.trans aP)
theorem Lr{l r:Expr}{op:CmpOp}{ai:Pos}(h:ET ep X ρ σ l (fun a ah=>ET ep X ρ ah r (fun b ae=>O2 ae b ep X Q (compareOp op) a)))(hm:autoParam (behindInMarks op r=false) Jm.a0) :
  ET ep X ρ σ (.Compare l [op] [r] ai) Q:=fun hc φ s hA hF=>by
 refine wx (bG.gg (h hc φ s hA hF) (fun va aj aX ah a ax ra aN=>?_)) hm
 refine bG.iW ax (aN hc aX aj ax.at_ (hF.step ax.ext ax.bT)) (fun vb aO bp ae b aP rb bE=>?_)
 exact(bE hc bp aO va vb aP.at_ (ra.mono aP.ext) rb).up (ax.trans aP)
theorem OO{t b:Expr}{ai:Pos}(h:IT ep X σ ρ (fun c ah=>Br c (ET ep X ρ ah b Q) (ET ep X ρ ah o Q)) t):ET ep X ρ σ (.IfExp t b o ai) Q:=fun hc φ s hA hF=>by
 refine Ll (bG.gg (h hc φ s hA hF) (fun c aj aX ah c' ax rc aN=>?_))
 have e:c=c':=rc
 subst e
 cases c with
 |true=>exact(aN.1 rfl hc aX aj ax.at_ (hF.step ax.ext ax.bT)).up ax
 |false=>exact(aN.2 rfl hc aX aj ax.at_ (hF.step ax.ext ax.bT)).up ax
theorem JT{op:BoolOp}{ai:Pos}(h:ET ep X ρ σ e Q):ET ep X ρ σ (.BoolOp op [e] ai) Q:=fun hc φ s hA hF=>Ck (h hc φ s hA hF)
theorem Ls{ai:Pos}(h:ET ep X ρ σ iP (fun v ah=>OB truthy ah v ep X (fun c ae=>Br c (ET ep X ρ ae (.BoolOp .And (kx::aW) ai) Q) (Q v ae)))) :
  ET ep X ρ σ (.BoolOp .And (iP::kx::aW) ai) Q:=fun hc φ s hA hF=>by
 refine Cm (bG.gg (h hc φ s hA hF) (fun va aj aX ah a ax ra aN=>?_))
 refine bG.iW ax (aN hc aX aj va ax.at_ ra) (fun c aO bp ae c' aP rc bE=>?_)
 have e:c=c':=rc
 subst e
 cases c with
 |true=>exact(bE.1 rfl hc bp aO aP.at_ (hF.step (ax.trans aP).ext (ax.trans aP).bT)).up (ax.trans aP)
 |false=>exact⟨bp,ae,a,ax.trans aP,ra.mono aP.ext,bE.2 rfl⟩
theorem OP{ai:Pos}(h:ET ep X ρ σ iP (fun v ah=>OB truthy ah v ep X (fun c ae=>Br c (Q v ae) (ET ep X ρ ae (.BoolOp .Or (kx::aW) ai) Q)))) :
  ET ep X ρ σ (.BoolOp .Or (iP::kx::aW) ai) Q:=fun hc φ s hA hF=>by
 refine Eb (bG.gg (h hc φ s hA hF) (fun va aj aX ah a ax ra aN=>?_))
 refine bG.iW ax (aN hc aX aj va ax.at_ ra) (fun c aO bp ae c' aP rc bE=>?_)
 have e:c=c':=rc
 subst e
 cases c with
 |true=>exact⟨bp,ae,a,ax.trans aP,ra.mono aP.ext,bE.1 rfl⟩
 |false=>exact(bE.2 rfl hc bp aO aP.at_ (hF.step (ax.trans aP).ext (ax.trans aP).bT)).up (ax.trans aP)
theorem GR(h:ET ep X ρ σ e (fun v ah=>OB truthy ah v ep X QB))(he:autoParam (∀whole,isTrue e X.aa whole=(do let v ← whole;standAt e.pos;holding [v] (truthy v))) Jm.a3):IT ep X σ ρ QB e:=fun hc φ s hA hF=>by
 refine yR (bG.gg (h hc φ s hA hF) (fun va aj aX ah a ax ra aN=>?_)) (he _)
 exact(aN hc aX aj va ax.at_ ra).up ax
theorem Lu{ai:Pos}(h:IT ep X σ ρ (fun b ah=>QB (!b) ah) e):IT ep X σ ρ QB (.UnaryOp .Not e ai):=fun hc φ s hA hF=>by
 refine Cn (bG.gg (h hc φ s hA hF) (fun c aj aX ah c' ax rc aN=>?_))
 have e:c=c':=rc
 subst e
 exact⟨aX,ah,!c,ax,rfl,aN⟩
theorem OQ{ai:Pos}(h:QB true σ):IT ep X σ ρ QB (.BoolOp .And [] ai):=fun _ φ s hA _=>aD (isTrue_and_nil ⟨φ,σ,true,.refl hA,rfl,h⟩)
theorem QD{ep:EP}{X:Fx}{ρ:Loc}{QB:Bool→St→Prop}{ai:Pos}{σ:St}(h:QB false σ):IT ep X σ ρ QB (.BoolOp .Or [] ai):=fun _ φ s hA _=>aD (isTrue_or_nil ⟨φ,σ,false,.refl hA,rfl,h⟩)
theorem Lv{ai:Pos}(h:IT ep X σ ρ (fun b ah=>Br b (IT ep X ah ρ QB (.BoolOp .And aW ai)) (QB false ah)) e):IT ep X σ ρ QB (.BoolOp .And (e::aW) ai):=fun hc φ s hA hF=>by
 refine Co (bG.gg (h hc φ s hA hF) (fun c aj aX ah c' ax rc aN=>?_))
 have e:c=c':=rc
 subst e
 cases c with
 |true=>exact(aN.1 rfl hc aX aj ax.at_ (hF.step ax.ext ax.bT)).up ax
 |false=>exact⟨aX,ah,false,ax,rfl,aN.2 rfl⟩
theorem OS{ai:Pos}(h:IT ep X σ ρ (fun b ah=>Br b (QB true ah) (IT ep X ah ρ QB (.BoolOp .Or aW ai))) e):IT ep X σ ρ QB (.BoolOp .Or (e::aW) ai):=fun hc φ s hA hF=>by
 refine Ec (bG.gg (h hc φ s hA hF) (fun c aj aX ah c' ax rc aN=>?_))
 have e:c=c':=rc
 subst e
 cases c with
 |true=>exact⟨aX,ah,true,ax,rfl,aN.1 rfl⟩
 |false=>exact(aN.2 rfl hc aX aj ax.at_ (hF.step ax.ext ax.bT)).up ax
theorem Lw{l r:Expr}{op:CmpOp}{ai:Pos}(h:ET ep X ρ σ l (fun a ah=>ET ep X ρ ah r (fun b ae=>O2 ae b ep X (fun v bz=>OB truthy bz v ep X QB) (compareOp op) a)))(hm:autoParam (behindInMarks op r=false) Jm.a0) :
  IT ep X σ ρ QB (.Compare l [op] [r] ai):=fun hc φ s hA hF=>by
 refine pE (bG.gg (h hc φ s hA hF) (fun va aj aX ah a ax ra aN=>?_)) hm
 refine bG.iW ax (aN hc aX aj ax.at_ (hF.step ax.ext ax.bT)) (fun vb aO bp ae b aP rb bE=>?_)
 refine bG.iW (ax.trans aP) (bE hc bp aO va vb aP.at_ (ra.mono aP.ext) rb) (fun vc bI fU bz c cS rc gJ=>?_)
 exact(gJ hc fU bI vc cS.at_ rc).up ((ax.trans aP).trans cS)
theorem UE:∀ {eP:CmpOp} {ep:EP} {eQ:CmpOp} {X:Fx} {ρ:Loc} {σ:St} {QB:Bool→St→Prop} {l bD cJ:Expr} {ai:Pos} (h:ET ep X ρ σ l (fun a ah=>ET ep X ρ ah bD (fun b ae=>O2 ae b ep X (fun v bz=>OB truthy bz v ep X (fun t cg=>Br t
   (ET ep X ρ cg cJ (fun d dZ=>O2 dZ d ep X (fun v' fN=>OB truthy fN v' ep X QB) (compareOp eQ) b)) (QB false cg))) (compareOp eP) a))) (hm:autoParam (lastMarks [eP,eQ] [bD,cJ]=false) Jm.a2),IT ep X σ ρ QB (.Compare l [eP,eQ] [bD,cJ] ai):=by
 rintro eP ep eQ X ρ σ QB l bD:(_)
 rintro cJ ai:(_)
 w_up
 intro hc
 rintro φ s:(_)
 intro hA hF
 refine yQ (bG.gg (h hc φ s hA hF) (fun va aj aX ah a ax ra aN=>?_)) hm
 refine D7 (bG.iW ax (aN hc aX aj ax.at_ (hF.step ax.ext ax.bT)) (fun vb aO bp ae b aP rb bE=>?_))
 have iB:=ax.trans aP
 refine bG.iW iB (bE hc bp aO va vb aP.at_ (ra.mono aP.ext) rb) (fun vc bI fU bz c cS rc gJ=>?_)
 refine bG.iW (iB.trans cS) (gJ hc fU bI vc cS.at_ rc) (fun t gS gw cg t' fZ rt i7=>?_)
 have g5:=(iB.trans cS).trans fZ
 have e:t=t':=rt
 subst e
 cases t with
 |false=>exact⟨gw,cg,false,g5,rfl,i7.2 rfl⟩
 |true =>
  refine Ea (bG.iW g5 (i7.1 rfl hc gw gS fZ.at_ (hF.step g5.ext g5.bT)) (fun vd gT jR dZ d eS rd lH=>?_));have kH:=g5.trans eS;refine bG.iW kH (lH hc jR gT vb vd eS.at_ (rb.mono ((cS.ext.trans fZ.ext).trans eS.ext)) rd) (fun ve jY jj fN e' gU re ui=>?_);exact(ui hc jj jY ve gU.at_ re).up (kH.trans gU)
theorem UG:∀ {l bD cJ:Expr} {eP eQ:CmpOp} {ai:Pos} (h:ET ep X ρ σ l (fun a ah=>ET ep X ρ ah bD (fun b ae=>O2 ae b ep X (fun v bz=>OB truthy bz v ep X (fun t cg=>Br t
   (ET ep X ρ cg cJ (fun d dZ=>O2 dZ d ep X Q (compareOp eQ) b)) (Q v cg))) (compareOp eP) a))) (hm:autoParam (lastMarks [eP,eQ] [bD,cJ]=false) Jm.a2),ET ep X ρ σ (.Compare l [eP,eQ] [bD,cJ] ai) Q:=by
 revert X ρ σ Q ep
 rintro X ρ σ Q ep l bD cJ eP:(_)
 rintro eQ ai:(_)
 w_up
 intro hc
 rintro φ s:(_)
 intro hA hF
 refine xZ (bG.gg (h hc φ s hA hF) (fun va aj aX ah a ax ra aN=>?_)) hm
 refine Ci (bG.iW ax (aN hc aX aj ax.at_ (hF.step ax.ext ax.bT)) (fun vb aO bp ae b aP rb bE=>?_))
 have iB:=ax.trans aP
 refine bG.iW iB (bE hc bp aO va vb aP.at_ (ra.mono aP.ext) rb) (fun vc bI fU bz c cS rc gJ=>?_)
 refine bG.iW (iB.trans cS) (gJ hc fU bI vc cS.at_ rc) (fun t gS gw cg t' fZ rt i7=>?_)
 have g5:=(iB.trans cS).trans fZ
 have e:t=t':=rt
 subst e
 cases t with
 |false=>exact⟨gw,cg,c,g5,rc.mono fZ.ext,i7.2 rfl⟩
 |true =>
  refine Cj (bG.iW g5 (i7.1 rfl hc gw gS fZ.at_ (hF.step g5.ext g5.bT)) (fun vd gT jR dZ d eS rd lH=>?_));have kH:=g5.trans eS;exact(lH hc jR gT vb vd eS.at_ (rb.mono ((cS.ext.trans fZ.ext).trans eS.ext)) rd).up kH
theorem eY{σ:St}{X:Fx}{Q:LV→St→Prop}{ep:EP}{a b:Int}{c:Int}(h:Q (.int c) σ)(k:∀(s:aG) (t u:Tok) (Q':bN) (E:bN),Q' (.int c s.toks) {s with toks:=s.toks+1}→PySem.wpAny X.G.M X.c.A (op (.int a t) (.int b u)) Q' E s):O2 σ (.int b) ep X Q op (.int a):=fun _ φ s va vb hA ra rb=>by
 obtain⟨t,rfl⟩:=ra
 obtain⟨u,rfl⟩:=rb
 exact aD (k s t u _ _ ⟨φ,σ,.int c,aV.tok hA,⟨_,rfl⟩,h⟩)
theorem jk{X:Fx}{σ:St}{Q:LV→St→Prop}{ep:EP}{a b:Int}{c:Bool}(h:Q (.bool c) σ)(k:∀(s:aG) (t u:Tok) (Q':bN) (E:bN),Q' (.bool c) s→PySem.wpAny X.G.M X.c.A (op (.int a t) (.int b u)) Q' E s):O2 σ (.int b) ep X Q op (.int a):=fun _ φ s va vb hA ra rb=>by
 obtain⟨t,rfl⟩:=ra
 obtain⟨u,rfl⟩:=rb
 exact aD (k s t u _ _ ⟨φ,σ,.bool c,.refl hA,rfl,h⟩)
theorem Ym{ep:EP}{σ:St}{X:Fx}{a b:Int}{Q:LV→St→Prop}(h:Q (.int (a+b)) σ):O2 σ (.int b) ep X Q (binaryOp .Add) (.int a):=eY h fun _ _ _ _ _ q=>add_int q
theorem Yn{ep:EP}{X:Fx}{σ:St}{b:Int}{Q:LV→St→Prop}{a:Int}(h:Q (.int (a-b)) σ):O2 σ (.int b) ep X Q (binaryOp .Sub) (.int a):=eY h fun _ _ _ _ _ q=>sub_int q
theorem OT{a b:Int}(h:Q (.int (a*b)) σ)(hm:IntMulOk a b):O2 σ (.int b) ep X Q (binaryOp .Mult) (.int a):=eY h fun _ _ _ _ _ q=>mul_int q hm
theorem Lx{a b:Int}(h:Q (.int (a.fdiv b)) σ)(hb:b≠0)(hp:Builtin.divisionGoesByPylong a b=false):O2 σ (.int b) ep X Q (binaryOp .FloorDiv) (.int a):=eY h fun _ _ _ _ _ q=>floordiv_int hb q (.inl hp)
theorem OV{a b:Int}(h:Q (.int (a.fmod b)) σ)(hb:b≠0):O2 σ (.int b) ep X Q (binaryOp .Mod) (.int a):=eY h fun _ _ _ _ _ q=>mod_int' hb q
theorem Yo{a b:Int}(h:Q (.int (Builtin.bitAnd a b)) σ):O2 σ (.int b) ep X Q (binaryOp .BitAnd) (.int a):=eY h fun _ _ _ _ _ q=>and_int q
theorem Y6{a b:Int}(h:Q (.int (Builtin.bitOr a b)) σ):O2 σ (.int b) ep X Q (binaryOp .BitOr) (.int a):=eY h fun _ _ _ _ _ q=>or_int q
theorem Yp{a b:Int}(h:Q (.int (a.fdiv (2 ^ b.toNat))) σ)(hb:0≤b):O2 σ (.int b) ep X Q (binaryOp .RShift) (.int a):=eY h fun _ _ _ _ _ q=>rshift_int hb q
theorem OW{a b:Int}(h:Q (.int (a*2 ^ b.toNat)) σ)(hb:0≤b)(hs:(Builtin.Int.intBits a:Int)+b≤2 ^ 27):O2 σ (.int b) ep X Q (binaryOp .LShift) (.int a):=eY h fun _ _ _ _ _ q=>lshift_int hb hs q
theorem OX{a b:Int}(h:Q (.int (a ^ b.toNat)) σ)(hb:0≤b)(hs:(Builtin.Int.intBits a:Int)*b≤2 ^ 27):O2 σ (.int b) ep X Q (binaryOp .Pow) (.int a):=eY h fun _ _ _ _ _ q=>pow_int hb hs q
theorem Yq{ep:EP}{b:Int}{X:Fx}{σ:St}{a:Int}{Q:LV→St→Prop}(h:Q (.bool (a==b)) σ):O2 σ (.int b) ep X Q (compareOp .Eq) (.int a):=jk h fun _ _ _ _ _ q=>PyProof.Rows.eq_int q
theorem Yr{a b:Int}(h:Q (.bool (a != b)) σ):O2 σ (.int b) ep X Q (compareOp .NotEq) (.int a):=jk h fun _ _ _ _ _ q=>PyProof.Rows.ne_int q
theorem Ys{ep:EP}{b:Int}{X:Fx}{σ:St}{a:Int}{Q:LV→St→Prop}(h:Q (.bool (decide (a<b))) σ):O2 σ (.int b) ep X Q (compareOp .Lt) (.int a):=jk h fun _ _ _ _ _ q=>PyProof.Rows.lt_int q
theorem Yt{ep:EP}{b:Int}{X:Fx}{σ:St}{Q:LV→St→Prop}{a:Int}(h:Q (.bool (decide (b<a))) σ):O2 σ (.int b) ep X Q (compareOp .Gt) (.int a):=jk h fun _ _ _ _ _ q=>PyProof.Rows.gt_int q
theorem Yu{ep:EP}{X:Fx}{σ:St}{Q:LV→St→Prop}{a b:Int}(h:Q (.bool (decide (a≤b))) σ):O2 σ (.int b) ep X Q (compareOp .LtE) (.int a):=jk h fun _ _ _ _ _ q=>PyProof.Rows.le_int q
theorem Yv{a b:Int}(h:Q (.bool (decide (b≤a))) σ):O2 σ (.int b) ep X Q (compareOp .GtE) (.int a):=jk h fun _ _ _ _ _ q=>PyProof.Rows.ge_int q
theorem JU{ep:EP}{X:Fx}{σ:St}{b:Bool}{QB:Bool→St→Prop}(h:QB b σ):OB truthy σ (.bool b) ep X QB:=fun _ φ s va hA ra=>by
 have e:va=.bool b:=ra
 subst e
 exact aD (wpAny_truthy_bool ⟨φ,σ,b,.refl hA,rfl,h⟩)
end
end Lake
end
variable {c c':Lake.Ctx}{ep:Lake.EP}{X:Lake.Fx}{ρ:Lake.Loc}{QA:Lake.Loc→Lake.St→Prop}
section
open PySem PySem.W PySem.Calls PyProof.Rows Builtin Builtin.ObjectAttr
namespace Lake
noncomputable def ql:List (Str×LV)→Str→Option LV
 |[],_=>none
 |f::r,x=>if f.1=x then some f.2 else ql r x
noncomputable def wA:List (Str×LV)→Str→LV→List (Str×LV)
 |[],x,v=>[(x,v)]
 |f::r,x,v=>if f.1=x then(f.1,v)::r else f::wA r x v
theorem wB{c:Prop}[Decidable c]{a b x:α}(h:a=x)(k:b=x):(if c then a else b)=x:=by
 by_cases z:c
 ·rw[bh z];exact h
 rw[aY z];exact k
theorem Ly{c:Prop}[Decidable c]{a b x:α}(h:a≠x)(k:b≠x):(if c then a else b)≠x:=by
 by_cases z:c
 ·rw[bh z];exact h
 rw[aY z];exact k
theorem rO{y:Str}{t:Tok}:(Value.str x t).isStr y=decide (x=y):=by
 show(x==y)=_
 exact Bool.eq_iff_iff.mpr (by simp)
theorem FR.get{P:Params}{φ:FZ}{name:Str}:∀ {fs:List (Str×LV)} {es:List DictEntry} {v:LV},FR P φ fs es→ql fs name=some v→∃w,getL name es=some (some w)∧VR φ v w:=by
 revert P φ name
 rintro P φ name:(_)
 intro ll
 induction ll with
 |nil =>
  rintro _ _ _ e;cases e
 |cons f fs ih =>
  rintro _ v ⟨e,r,rfl,h2,⟨t,h3⟩,h4,h5⟩ q:_;have q:(if f.1=name then some f.2 else ql fs name)=some v:=q;unfold getL;rw[List.find?_cons,h3,rO];by_cases z:f.1=name
  ·nomatch(bh z),q;rw[ia z];exact⟨e.val,rfl,h4⟩
  rw[aY z]at q;rw[jx z];obtain⟨w,h6,h7⟩:=ih h5 q;refine⟨w,?_,h7⟩;unfold getL at h6;cases q':List.find? (fun x=>x.key.isStr name) r with
  |some e'=>rw[q']at h6;exact h6
  |none =>
   rw[q']at h6;exact absurd h6 (Ly (fun z=>nomatch z) fun z=>nomatch z)
theorem FR.noRef{P:Params}:∀ {fs:List (Str×LV)} {es:List DictEntry},FR P φ fs es→es.any (·.refKey)=false:=by
 intro ll
 induction ll with
 |nil =>
  rintro _ h;have h:_=[]:=h;subst h;rfl
 |cons f fs ih =>
  rintro _ ⟨e,r,rfl,h2,⟨t,h3⟩,h4,h5⟩:_;rw[any_cons,ih h5,Bool.or_false];unfold DictEntry.refKey;rw[h3]
theorem FR.JV{P:Params}{es:List DictEntry}(h:FR P φ fs es)(e:ql fs name=none):getL name es=some none:=by
 have key:∀ {fs:List (Str×LV)} {es:List DictEntry},FR P φ fs es→ql fs name=none→es.find? (fun x=>x.key.isStr name)=none:=by
  intro fs
  induction fs with
  |nil=>intro es h _;have h:_=[]:=h;subst h;rfl
  |cons f fs ih =>
   rintro _ ⟨e,r,rfl,h2,⟨t,h3⟩,h4,h5⟩ q:_;have q:(if _ then _ else _)=_:=q;rw[List.find?_cons,h3,rO];by_cases z:f.1=name
   ·nomatch(bh z),q
   rw[aY z]at q;rw[jx z];exact ih h5 q
 unfold getL
 rw[key h e,h.noRef]
 rfl
theorem FR.put{P:Params}{φ:FZ}{name:Str}{t:Tok}{v:LV}{w:Value}(hv:VR φ v w):∀ {fs:List (Str×LV)} {es:List DictEntry},FR P φ fs es→FR P φ (wA fs name v) (putL name (PyData.keyHash P name) (.str name t) w es):=by
 revert hv
 revert P φ name t v w
 rintro P φ name t v:(_)
 rintro w:(_)
 intro hv
 intro ll
 induction ll with
 |nil =>
  rintro _ h;have h:_=[]:=h;subst h;exact⟨_,[],rfl,rfl,⟨t,rfl⟩,hv,rfl⟩
 |cons f fs ih =>
  rintro _ ⟨e,r,rfl,h2,⟨t',h3⟩,h4,h5⟩:_;show FR P φ (if f.1=name then(f.1,v)::fs else f::wA fs name v) (if e.key.isStr name then⟨e.hash,e.key,w⟩::r else e::putL name (PyData.keyHash P name) (.str name t) w r);rw[h3,rO];by_cases z:f.1=name
  ·rw[bh z,bh (ia z)];exact⟨_,r,rfl,by rw[← z];exact h2,⟨t',by rw[z]at *⟩,hv,h5⟩
  rw[aY z,aY (by rw[jx z];exact mw)];exact⟨e,_,rfl,h2,⟨t',h3⟩,h4,ih h5⟩
theorem FR.length{P:Params}:∀ {fs:List (Str×LV)} {es:List DictEntry},FR P φ fs es→es.length=fs.length:=by
 intro ll
 induction ll with
 |nil =>
  rintro _ h;have h:_=[]:=h;subst h;rfl
 |cons _ _ ih =>
  rintro _ ⟨e,r,rfl,_,_,_,h5⟩:_;simp[ih h5]
theorem jK(name:Str)(hh:Int)(k v:Value):∀es:List DictEntry,(putL name hh k v es).length≤es.length+1:=by
 intro ll
 induction ll with
 |nil =>
  simp[putL]
 |cons e r ih =>
  unfold putL;split
  ·simp
  have:=ih;simp only[gH];exists this
structure uS(K:Frag)(C:Addr):Prop where
 get:plainGet K C ""=true
 dict:hasDictIn K C=true
 oZ:findIn K (.ref C) "__setattr__"=some (some (.builtin "object.__setattr__"))
 over:plainOver K C=true
theorem rP(h:At φ s σ c G){dx:Addr}(e:σ a=some (t,.inst C dx fs)) :
  ∃es n,InstAt s.heap a (instObj C dx) C (some (dictOf es n))∧FR G.P φ fs es∧s.heap.get? dx=some (dictOf es n):=by
 obtain⟨h1,_,es,n,h2,h3⟩:=h.rep.ob _ _ _ e
 exact⟨es,n,⟨h1,rfl,rfl,h2⟩,h3,h2⟩
theorem VR.handed(hv:VR φ v w)(hc:∀c,v≠.con c):handedIn w=true:=by
 cases v with
 |none=>have e:w=_:=hv;rw[e];rfl
 |bool b=>have e:w=_:=hv;rw[e];rfl
 |int i=>obtain⟨t,rfl⟩:=hv;rfl
 |str i=>obtain⟨t,rfl⟩:=hv;rfl
 |bX i=>obtain⟨t,rfl⟩:=hv;rfl
 |ref a=>have e:w=_:=hv;rw[e];rfl
 |con c=>exact absurd rfl (hc c)
 |tup vs=>simp only[lh,ky,kz,kA,kE,kF,kG,ke,kg,ix,iy,iA]at hv;obtain⟨a,o,xs,n,rfl,_⟩:=hv;rfl
 |fl vs=>simp only[lh,ky,kz,kA,kE,kF,kG,ke,kg,ix,iy,iA]at hv;obtain⟨a,xs,n,rfl,_⟩:=hv;rfl
 |fw vs=>simp only[lh,ky,kz,kA,kE,kF,kG,ke,kg,ix,iy,iA]at hv;obtain⟨a,o,xs,n,rfl,_⟩:=hv;rfl
 |view d=>simp only[lh,ky,kz,kA,kE,kF,kG,ke,kg,ix,iy,iA]at hv;obtain⟨a,rfl,_⟩:=hv;rfl
 |uQ lo hi=>simp only[lh,ky,kz,kA,kE,kF,kG,ke,kg,ix,iy,iA]at hv;obtain⟨a,o,xs,n,rfl,_⟩:=hv;rfl
section
variable {X:Fx}{ρ:Loc}{σ:St}{Q:LV→St→Prop}{ep:EP}
theorem GS{dx:Addr}{ex:Bool}(e:σ a=some (t,.inst C dx fs))(hC:uS X.G.K C)(hn:findIn X.G.K (.ref C) name=some none)(hf:ql fs name=some v)
 (hv:∀c,v≠.con c)(h:Q v σ):O1 X (fun o=>getAttr o name ex) (.ref a) σ Q ep:=fun _ φ s va hA ra=>by
 have ra:va=.ref a:=ra
 subst ra
 obtain⟨es,n,I,hF,hd⟩:=rP hA e
 obtain⟨w,h1,h2⟩:=hF.get hf
 exact aD (get_value hA.rep.K I (plainGet_of (name:="") hC.get).1 (findObj_own hC.dict hn rfl h1) (h2.handed hv) ⟨φ,σ,v,aV.tok hA,h2,h⟩)
theorem JW{ai:Pos}(h:ET ep X ρ σ e (fun o ah=>O1 X (fun o=>getAttr o name true) o ah Q ep))(hb:autoParam (eval (.Attribute e name ai) X.aa=(do let o ← eval e X.aa;standAt ai.atName;let r ← holding [o] (getAttr o name true);letTemporaryGo e o r;pure r)) Jm.a0):ET ep X ρ σ (.Attribute e name ai) Q:=fun hc φ s hA hF=>by
 refine wy (bG.gg (h hc φ s hA hF) (fun va aj aX ah a ax ra aN=>?_)) hb
 exact(aN hc aX aj va ax.at_ ra).up ax
theorem GU{s:aG}{A:Around}{K:Frag}{aq:Program}{w:World}{x C dx:Addr}{R:Result→aG→Prop}{name:Str}{tk:Tok}{v:Value}{es:List DictEntry}{n:Nat}(X:K.In s.heap)
 (I:InstAt s.heap x (instObj C dx) C (some (dictOf es n)))(hp:plainOver K C=true)(ht:takerIn K C name=some none)(hh:hasDictIn K C=true)
 (hl:es.any (·.refKey)=false)(hz:es.length≤1000)
 (h:∀h' n',Heap.SameBut dx s.heap h'→h'.get? dx=some (dictOf (putL name (PyData.keyHash w.params name) (.str name s.toks) v es) n')→R (.ok (.ret .none)) {s with heap:=h',toks:=s.toks+1}) :
  PySem.codeAny (model aq w) A (.call (.builtin "object.__setattr__") ⟨[.ref x,.str name tk,v],[]⟩) R s:=by
 revert X I hp ht hh hl hz h
 revert s A K aq w x C dx R name tk v es n
 rintro s A K aq w x C dx R name tk v:(_)
 rintro es n:(_)
 intro X I hp ht hh hl hz h
 refine osa_open X I hp ht fun b=>?_
 obtain⟨cd,hc,dJ⟩:=any_some hh
 obtain⟨hx,-,-,D⟩:=I
 have D:s.heap.get? dx=some (dictOf es n):=D
 refine PySem.wpAny_bind (PySem.wpAny_pure (PySem.wpAny_bind (PySem.wpAny_bind (wpAny_loadPart hx (PySem.wpAny_bind ((looks_clsIn X hc).here ?_))))))
 rw[dJ]
 refine PySem.wpAny_pure (a:=some dx) (PySem.wpAny_bind (PySem.wpAny_pure (PySem.wpAny_bind ?_)))
 unfold nsSet
 refine PySem.wpAny_bind (PySem.wpAny_bind (wpAny_askSetting (PySem.wpAny_pure (PySem.wpAny_bind (wpAny_mkText (PySem.wpAny_bind (wpAny_loadPart D ?_)))))))
 dsimp only
 have c:(!es.toArray.any (·.key.isStr name)&&es.toArray.any (·.refKey))=false:=by
  have:es.toArray.any (·.refKey)=false:=by rw[List.any_toArray];exact hl
  rw[this,Bool.and_false]
 rw[aRefKeyMayBeTheName_at,c]
 refine wpAny_updatePart D ?_
 have e1:Obj.putName name (PyData.keyHash w.params name) (.str name s.toks) v (dictOf es n)=dictOf (putL name (PyData.keyHash w.params name) (.str name s.toks) v es) (putN name es n):=putName_dict name _ _ v es n
 have D':(s.heap.update dx (Obj.putName name (PyData.keyHash w.params name) (.str name s.toks) v)).get? dx=some (dictOf (putL name (PyData.keyHash w.params name) (.str name s.toks) v es) (putN name es n)):=by rw[← e1];exact mZ _ D (by rw[e1];rfl)
 refine PySem.wpAny_bind (wpAny_lookBehind D' (pastItsLine_dict ?_) ?_)
 ·rw[List.size_toArray,dH];have:(putL name (PyData.keyHash w.params name) (.str name s.toks) v es).length≤es.length+1:=jK ..;exists hz,this
 exact PySem.wpAny_pure (h _ _ (lz ..) D')
noncomputable def OU(X:Fx)(op:Value→Value→Sem Unit)(a b:LV)(σ:St)(Q:St→Prop)(ep:EP):Prop:=
 dM X.n X.c→∀φ s va vb,At φ s σ X.c X.G→VR φ a va→VR φ b vb→TB GQ s s φ X.G X.c X.c.pv ep (op va vb) (fun _ σ'=>Q σ')
theorem uj{K:Frag}(hn:findIn K (.ref C) name=some none):takerIn K C name=some none:=by unfold takerIn;rw[hn];rfl
theorem AX{QU:St→Prop}{dx:Addr}(e:σ a=some (t,.inst C dx fs))(hC:uS X.G.K C)(hn:findIn X.G.K (.ref C) name=some none)
 (hz:fs.length≤900)(h:QU (upd σ a (t,.inst C dx (wA fs name v)))):OU X (fun o v=>setAttr o name v) (.ref a) v σ QU ep:=fun _ φ s va vb hA ra rb=>by
 have ra:va=.ref a:=ra
 subst ra
 obtain⟨es,n,I,hF,hd⟩:=rP hA e
 refine aD (set_plain hA.rep.K I hC.oZ ?_)
 have Lz:=hA.toks (s.toks+1)
 refine GU (s:={s with toks:=s.toks+1}) Lz.rep.K I hC.over (uj hn) hC.dict hF.noRef (by rw[hF.length];exists hz) fun h' n' hs dJ=>?_
 exact⟨φ,_,(),aV.setField hA e hs dJ (hF.put rb),trivial,h⟩
noncomputable def iC(G:Gd)(c:Ctx)(s:aG)(φ:FZ)(Q:LV→St→Prop)(ep:EP)(r:Result)(s':aG):Prop:=match r with
 |.ok (.ret v)=>bG G c c.pv VR s φ Q v s'
 |.ok _=>False
 |.error e=>cH G c c.pv s φ ep e s'
@[elab_as_elim] theorem iC.go{G:Gd}{c:Ctx}{s s':aG}{φ:FZ}{Q:LV→St→Prop}{ep:EP}{r:Result}{T:Result→Prop}(z:iC G c s φ Q ep r s')
 (k1:∀v aH σ' lv,aV G c c.pv s φ s' aH σ'→VR aH lv v→Q lv σ'→T (.ok (.ret v)))(k2:∀e,cH G c c.pv s φ ep e s'→T (.error e)):T r:=by
 rcases r with e|(v|_|_|_)
 ·exact k2 e z
 all_goals first|exact z.elim|(obtain⟨aH,σ',lv,S,r,q⟩:=z;exact k1 _ _ _ _ S r q)
noncomputable def CallT(n:Nat)(ep:EP)(f:Value)(G:Gd)(σ:St)(Q:LV→St→Prop)(az:List LV):Prop:=
 ∀(c:Ctx) φ s vs,dM n c→At φ s σ c G→bg φ az vs→bw G.M c.A (.call f ⟨vs,[]⟩) (iC G c s φ Q ep) s
theorem CallT.run{n:Nat}{vs:List Value}(h:CallT n ep f G σ Q az)(hc:dM n c)(hA:At φ s σ c G)(hv:bg φ az vs) :
  TB VR s s φ G c c.pv ep (call f vs) Q:=by
 refine dz (dR (h c φ s vs hc hA hv) fun r s' z=>?_)
 rcases r with e|(v|_|_|_)<;>first|exact z|exact z.elim
theorem dM.mono{n m:Nat}(h:dM n c)(k:m≤n):dM m c:=⟨h.frames,h.handled,by have:=h.depth;(exists k,this),by have:=h.units;exists k,this⟩
noncomputable def EA(X:Fx)(ρ:Loc):List Expr→St→(List LV→St→Prop)→EP→Prop
 |[],σ,Q,_=>Q [] σ
 |e::r,σ,Q,ep=>ET ep X ρ σ e (fun v ah=>EA X ρ r ah (fun vs ae=>Q (v::vs) ae) ep)
noncomputable def dg:List Expr→Bool
 |[]=>true
 |e::r=>!Nat.beq e.ctorIdx 22&&dg r
theorem jm:∀ {es:List Expr},dg es=true→starEach es aa=es.map fun e=>(false,eval e aa):=by
 intro ll
 induction ll with
 |nil =>
  rintro _;exact rfl
 |cons e r ih =>
  rintro h;have hr:dg r=true∧starEach (e::r) aa=(false,eval e aa)::starEach r aa:=by cases e<;>first|exact⟨h,rfl⟩|cases h
  rw[hr.2,ih hr.1];rfl
theorem kI{ai:Pos}:∀(ts:List (Sem Value)),backTo ai (ts.map fun t=>(false,t))=ts.map fun t=>(false,t):=fun ts=>by
 unfold backTo;rw[ey];rfl
theorem qW{M:Model}{t:Sem Value}{ts:List (Sem Value)}{Q:List Value→aG→Prop}
 (h:wpAny M A s E t (fun v aj=>wpAny M A aj E (spliced (ts.map fun t=>(false,t))) (fun vs=>Q (v::vs)))):wpAny M A s E (spliced ((t::ts).map fun t=>(false,t))) Q:=by
 show wpAny M A s E (do
  let v ← t;let here ← pure [v]
  return here++(← holding here (spliced (ts.map fun t=>(false,t))))) Q
 exact ak (aL h (fun v aj aN=>ak (ao (ak (bo (aL aN (fun vs aO bE=>ao bE) fun _ _ x=>x))))) fun _ _ x=>x)
theorem uT:∀ {es:List Expr} {σ:St} {Q:List LV→St→Prop},EA X ρ es σ Q ep→dM X.n X.c→∀ {φ:FZ} {s:aG},At φ s σ X.c X.G→cV X.aa X.c ρ φ s.heap→
  TB bg s s φ X.G X.c X.c.pv ep (spliced ((es.map fun e=>eval e X.aa).map fun t=>(false,t))) Q:=by
 intro ll
 induction ll with
 |nil =>
  rintro σ Q h hc φ s hA hF;exact ao ⟨φ,σ,[],.refl hA,rfl,h⟩
 |cons e r ih =>
  rintro σ Q h hc φ s hA hF;refine qW (ts:=r.map fun e=>eval e X.aa) (bG.gg (h hc φ s hA hF) (fun v aj aX ah a ax ra aN=>?_));refine bG.iW ax (ih aN hc ax.at_ (hF.step ax.ext ax.bT)) (fun vs aO bp ae as aP rs bE=>?_);exact⟨bp,ae,a::as,ax.trans aP,bg.cZ.mpr ⟨ra.mono aP.ext,rs⟩,bE⟩
end
end Lake
end
section
namespace Lake
noncomputable def jS(G:Gd)(f:Value):Prop:=∀h,G.K.In h→∃k,(k=Keeper.frame∨k=Keeper.machine∨k=Keeper.boundFrame)∧Looks G.M h (keeperOf f) k
theorem uU(h:keepIn G.K f=true):jS G f:=fun hp X=>keeps_K h hp X
theorem nr:jS G (.builtin id):=fun _ _=>⟨.machine,.inr (.inl rfl),Looks.now⟩
theorem oh:jS G (.type id):=fun _ _=>⟨.machine,.inr (.inl rfl),Looks.now⟩
noncomputable def bV(σ:St)(X:Fx)(ep:EP)(Q:LV→St→Prop)(az:List LV)(f:Value):Prop:=
 dM X.n X.c→∀φ s vs,At φ s σ X.c X.G→bg φ az vs→TB VR s s φ X.G X.c X.c.pv ep (call f vs) Q
section
variable {X:Fx}{ρ:Loc}{σ:St}{Q:LV→St→Prop}{ep:EP}
theorem bV.of{n:Nat}(h:CallT n ep f X.G σ Q az)(k:n≤X.n):bV σ X ep Q az f:=fun hc _ _ _ hA hv=>h.run (hc.mono k) hA hv
theorem nt{f:Value}{first:List LV}{az:List Expr}{ai:Pos}(hp:dg az=true)(hk:jS X.G f)
 (h:EA X ρ az σ (fun vs ah=>bV ah X ep Q (first++vs) f) ep)(hc:dM X.n X.c){φ:FZ}{s:aG}{fs:List Value}(hA:At φ s σ X.c X.G)(hF:cV X.aa X.c ρ φ s.heap)(hf:bg φ first fs) :
  TB VR s s φ X.G X.c X.c.pv ep (callWith ai f fs (backTo ai (starEach az X.aa)) []) Q:=by
 revert hp hk h hc hA hF hf
 revert X ρ σ Q ep f first az ai φ s fs
 rintro X ρ σ Q ep f first az ai φ s fs:(_)
 intro hp hk h hc hA hF hf
 have e1:backTo ai (starEach az X.aa)=(az.map fun e=>eval e X.aa).map fun t=>(false,t):=by rw[jm hp,show(az.map fun e=>(false,eval e X.aa))=(az.map fun e=>eval e X.aa).map fun t=>(false,t)by rw[ey];rfl,kI]
 rw[e1]
 refine lT (P:=fun hp=>X.G.K.In hp) ?_ (fun hp hX=>hk hp hX) ?_
 ·simp
 have run:=uT h hc hA hF
 have aZ:wpAny X.G.M X.c.A s (cH X.G X.c X.c.pv s φ ep) (spliced ((az.map fun e=>eval e X.aa).map fun t=>(false,t))) (fun vs aj=>X.G.K.In aj.heap∧TB VR s aj φ X.G X.c X.c.pv ep (call f (fs++vs)) Q):=
  bG.gg run (fun vs aj aX ah as ax ra aN=>⟨ax.at_.rep.K,(aN hc aX aj (fs++vs) ax.at_ ((hf.mono ax.ext).append ra)).up ax⟩)
 cases az with
 |nil =>
  have b:X.G.K.In s.heap∧TB VR s s φ X.G X.c X.c.pv ep (call f (fs++[])) Q:=⟨hA.rep.K,by
   have z:=h hc φ s (fs++[]) hA (hf.append rfl);exact z⟩
  exact aD (evalArgs_nil3 b)
 |cons e r=>exact lD aZ
theorem JX{az:List Expr}{ai:Pos}(hp:dg az=true)
 (h:ET ep X ρ σ func (fun f ah=>∃fv,(∀φ v,VR φ f v→v=fv)∧jS X.G fv∧EA X ρ az ah (fun vs ae=>bV ae X ep Q vs fv) ep))
 (he:autoParam (eval (.Call func az [] ai) X.aa=(do callWith ai (← eval func X.aa) [] (backTo ai (starEach az X.aa)) (backToKw ai (keywordEach [] X.aa)))) Jm.a0) :
  ET ep X ρ σ (.Call func az [] ai) Q:=fun hc φ s hA hF=>by
 refine yq (bG.gg (h hc φ s hA hF) (fun va aj aX ah a ax ra iX=>?_)) he
 obtain⟨fv,LA,hk,aN⟩:=iX
 rw[LA _ _ ra]
 exact(nt (first:=[]) hp hk aN hc ax.at_ (hF.step ax.ext ax.bT) rfl).up ax
noncomputable def iR(X:Fx)(o:LV)(name:Str)(σ:St)(K:Value→Prop):Prop:=
 ∃f,jS X.G f∧(∀φ s va,At φ s σ X.c X.G→VR φ o va→∀pl (Q':Value×List Value→aG→Prop) E,Q' (f,[va]) s→PySem.wpAny X.G.M X.c.A (getMethod va name pl) Q' E s)∧K f
theorem GV{az:List Expr}{apos ai:Pos}(hp:dg az=true)
 (h:ET ep X ρ σ o (fun ov ah=>iR X ov name ah (fun f=>EA X ρ az ah (fun vs ae=>bV ae X ep Q (ov::vs) f) ep)))
 (he:autoParam (eval (.Call (.Attribute o name apos) az [] ai) X.aa=(do
   let ov ← eval o X.aa
   standAt apos.atName
   let(f,first) ← holding [ov] (getMethod ov name pl)
   callWith ai f first (backTo ai (starEach az X.aa)) [])) Jm.a0):ET ep X ρ σ (.Call (.Attribute o name apos) az [] ai) Q:=fun hc φ s hA hF=>by
 refine tM (pl:=pl) (bG.gg (h hc φ s hA hF) (fun va aj aX ah a ax ra iX=>?_)) he
 obtain⟨f,hk,hg,aN⟩:=iX
 refine aD (hg aX aj va ax.at_ ra _ _ _ ?_)
 exact(nt (first:=[a]) hp hk aN hc ax.at_ (hF.step ax.ext ax.bT) (bg.cZ.mpr ⟨ra,rfl⟩)).up ax
theorem Em{dx f:Addr}{K:Value→Prop}(e:σ a=some (t,.inst C dx fs))(hC:uS X.G.K C)(hf:findIn X.G.K (.ref C) name=some (some (.ref f)))
 (ht:isFn X.G.K (.ref f)=true)(hk:keepIn X.G.K (.ref f)=true)(hl:ql fs name=none)(h:K (.ref f)):iR X (.ref a) name σ K:=
 ⟨.ref f,uU hk,fun φ s va hA ra pl Q' E q=>by
  have ra:va=.ref a:=ra;subst ra;obtain⟨es,n,I,hF,hd⟩:=rP hA e;exact method_fn hA.rep.K I (plainGet_of (name:="") hC.get).1 (plainGet_of (name:="") hC.get).2 hf (beq_iff_eq.mp ht) (by show(lookIn name (dictOf es n)).map _=_;rw[lookIn_dict,hF.JV hl];rfl) q,h⟩
end
set_option genCtorIdx true in
inductive LF where
 |next|brk|cont|ret (v:LV)
noncomputable def Ik(φ:FZ):LF→Flow→Prop
 |.next,f=>f=.next
 |.brk,f=>f=.brk
 |.cont,f=>f=.cont
 |.ret v,f=>∃w,f=.ret w∧VR φ v w
inductive ki(X:Fx)(s:aG)(φ:FZ)(Q:LF→Loc→St→Prop)(f:Flow)(s':aG):Prop where
 |mk (aH:FZ) (σ':St) (bt:Loc) (lf:LF) (S:aV X.G X.c X.c.out s φ s' aH σ') (F:cV X.aa X.c bt aH s'.heap) (r:Ik aH lf f) (q:Q lf bt σ')
inductive kJ(X:Fx)(s:aG)(φ:FZ)(Q:Loc→St→Prop)(s':aG):Prop where
 |mk (aH:FZ) (σ':St) (bt:Loc) (S:aV X.G X.c X.c.out s φ s' aH σ') (F:cV X.aa X.c bt aH s'.heap) (q:Q bt σ')
section
variable {M:Model}{A:Around}{X:Fx}{s₀ s:aG}{cC:FZ}{E E':bN}
theorem ki.el{Q:LF→Loc→St→Prop}{v:Flow}{H:Prop}(x:ki X s₀ cC Q v s')(k:∀aH σ' bt lf,aV X.G X.c X.c.out s₀ cC s' aH σ'→cV X.aa X.c bt aH s'.heap→Ik aH lf v→Q lf bt σ'→H):H:=by cases x with|mk a b d l S F r q=>exact k a b d l S F r q
theorem kJ.el{Q:Loc→St→Prop}{H:Prop}(x:kJ X s₀ cC Q s')(k:∀aH σ' bt,aV X.G X.c X.c.out s₀ cC s' aH σ'→cV X.aa X.c bt aH s'.heap→Q bt σ'→H):H:=by cases x with|mk a b d S F q=>exact k a b d S F q
theorem ki.go{t:Sem Flow}{Q:LF→Loc→St→Prop}{Q':Flow→aG→Prop}(h:wpAny M A s E t (ki X s₀ cC Q))(k:∀v s' aH σ' bt lf,aV X.G X.c X.c.out s₀ cC s' aH σ'→cV X.aa X.c bt aH s'.heap→Ik aH lf v→Q lf bt σ'→Q' v s')(e:∀e s',E e s'→E' e s'):wpAny M A s E' t Q':=aL h (fun v s' x=>x.el (k v s')) e
theorem ki.gg{t:Sem Flow}{Q:LF→Loc→St→Prop}{Q':Flow→aG→Prop}(h:wpAny M A s E t (ki X s₀ cC Q))(k:∀v s' aH σ' bt lf,aV X.G X.c X.c.out s₀ cC s' aH σ'→cV X.aa X.c bt aH s'.heap→Ik aH lf v→Q lf bt σ'→Q' v s'):wpAny M A s E t Q':=ki.go h k fun _ _ e=>e
theorem kJ.go{t:Sem Unit}{Q:Loc→St→Prop}{Q':Unit→aG→Prop}(h:wpAny M A s E t (fun _=>kJ X s₀ cC Q))(k:∀v s' aH σ' bt,aV X.G X.c X.c.out s₀ cC s' aH σ'→cV X.aa X.c bt aH s'.heap→Q bt σ'→Q' v s')(e:∀e s',E e s'→E' e s'):wpAny M A s E' t Q':=aL h (fun v s' x=>x.el (k v s')) e
theorem kJ.gg{t:Sem Unit}{Q:Loc→St→Prop}{Q':Unit→aG→Prop}(h:wpAny M A s E t (fun _=>kJ X s₀ cC Q))(k:∀v s' aH σ' bt,aV X.G X.c X.c.out s₀ cC s' aH σ'→cV X.aa X.c bt aH s'.heap→Q bt σ'→Q' v s'):wpAny M A s E t Q':=kJ.go h k fun _ _ e=>e
end
noncomputable def ST(ep:EP)(σ:St)(ρ:Loc)(X:Fx)(Q:LF→Loc→St→Prop)(t:Sem Flow):Prop:=
 dM X.n X.c→∀φ s,At φ s σ X.c X.G→cV X.aa X.c ρ φ s.heap→
  wpAny X.G.M X.c.A s (cH X.G X.c X.c.out s φ ep) t (ki X s φ Q)
noncomputable def AS(ep:EP)(ρ:Loc)(σ:St)(X:Fx)(t:Value→Sem Unit)(Q:Loc→St→Prop)(v:LV):Prop:=
 dM X.n X.c→∀φ s w,At φ s σ X.c X.G→cV X.aa X.c ρ φ s.heap→VR φ v w→
  wpAny X.G.M X.c.A s (cH X.G X.c X.c.out s φ ep) (t w) (fun _=>kJ X s φ Q)
theorem uk:∀b∈c.out,b∈c.pv:=fun _ h=>Ctx.rL h
section
variable {X:Fx}{ρ:Loc}{σ:St}{Q:LF→Loc→St→Prop}{QA:Loc→St→Prop}{QV:LV→St→Prop}{ep:EP}
theorem yX{ep:EP}{X:Fx}{ρ:Loc}{σ:St}{Q:LF→Loc→St→Prop}(h:Q .next ρ σ):ST ep σ ρ X Q (execs [] X.aa):=fun _ φ s hA hF=>aD (wpAny_execs_nil ⟨φ,σ,ρ,.next,.refl hA,hF,rfl,h⟩)
theorem wC{st:Stmt}{aW:List Stmt}(h:ST ep σ ρ X (fun f aC ah=>match f with|.next=>ST ep ah aC X Q (execs aW X.aa)|f=>Q f aC ah) (exec st X.aa)):ST ep σ ρ X Q (execs (st::aW) X.aa):=fun hc φ s hA hF=>by
 refine gI (ki.gg (h hc φ s hA hF) (fun f aj aX ah aC lf ax jZ bD aN=>?_))
 cases lf with
 |next =>
  have e:f=.next:=bD;subst e;exact ki.go (aN hc aX aj ax.at_ jZ) (fun f aO bp ae cz lf aP fQ cJ bE=>⟨bp,ae,cz,lf,ax.trans aP,fQ,cJ,bE⟩) fun _ _ e=>e.up ax
 |brk=>have e:f=.brk:=bD;subst e;exact⟨aX,ah,aC,.brk,ax,jZ,rfl,aN⟩
 |cont=>have e:f=.cont:=bD;subst e;exact⟨aX,ah,aC,.cont,ax,jZ,rfl,aN⟩
 |ret v=>obtain⟨w,rfl,rw⟩:=bD;exact⟨aX,ah,aC,.ret v,ax,jZ,⟨w,rfl,rw⟩,aN⟩
theorem aV.bP(x:aV G c c.pv s φ s' aH σ'):aV G c c.out s φ s' aH σ':=x.mono uk
theorem cH.bP{e:Value}{ep:EP}(x:cH G c c.pv s φ ep e s'):cH G c c.out s φ ep e s':=x.mono uk (fun h=>h) fun _ _ h=>h
theorem En{ai:Pos}(h:ET ep X ρ σ e (fun v ah=>Q (.ret v) ρ ah)):ST ep σ ρ X Q (exec (.Return (some e) ai) X.aa):=fun hc φ s hA hF =>
 jB (bG.go (h hc φ s hA hF) (fun v aj aX ah lv ax bD aN=>⟨aX,ah,ρ,.ret lv,ax.bP,hF.step ax.ext ax.bT,⟨v,rfl,bD⟩,aN⟩) fun _ _ e=>e.bP)
theorem UH{ai:Pos}(h:Q (.ret .none) ρ σ):ST ep σ ρ X Q (exec (.Return none ai) X.aa):=fun _ φ s hA hF =>
 aD (wpAny_Return_none ⟨φ,σ,ρ,.ret .none,.refl hA,hF,⟨_,rfl,rfl⟩,h⟩)
theorem JY{ai:Pos}(h:ET ep X ρ σ e (fun _ ah=>Q .next ρ ah))(hi:interactive X.aa=false)(hs:autoParam (swapsWith e none ai.line X.aa=pure false) Jm.a0):ST ep σ ρ X Q (exec (.Expr e ai) X.aa):=fun hc φ s hA hF =>
 pF (bG.go (h hc φ s hA hF) (fun v aj aX ah lv ax bD aN=>⟨aX,ah,ρ,.next,ax.bP,hF.step ax.ext ax.bT,rfl,aN⟩) fun _ _ e=>e.bP) hi hs
theorem OY{t:Expr}{b o:List Stmt}{ai:Pos}(h:IT ep X σ ρ (fun c ah=>Br c (ST ep ah ρ X Q (execs b X.aa)) (ST ep ah ρ X Q (execs o X.aa))) t):ST ep σ ρ X Q (exec (.If t b o ai) X.aa):=fun hc φ s hA hF=>by
 refine GL (bG.go (h hc φ s hA hF) (fun c aj aX ah c' ax rc aN=>?_) fun _ _ e=>e.bP)
 have e:c=c':=rc
 subst e
 have jZ:=hF.step ax.ext ax.bT
 cases c with
 |true=>exact ki.go (aN.1 rfl hc aX aj ax.at_ jZ) (fun f aO bp ae cz lf aP fQ cJ bE=>⟨bp,ae,cz,lf,ax.bP.trans aP,fQ,cJ,bE⟩) fun _ _ e=>e.up ax.bP
 |false=>exact ki.go (aN.2 rfl hc aX aj ax.at_ jZ) (fun f aO bp ae cz lf aP fQ cJ bE=>⟨bp,ae,cz,lf,ax.bP.trans aP,fQ,cJ,bE⟩) fun _ _ e=>e.up ax.bP
theorem Rep.Cs{h:Heap}(R:Rep G φ σ h)(h1:φ a=none)(h2:σ a=none)(hs:Heap.SameBut a h h'):Rep G φ σ h':=by
 refine⟨R.base,fun b ob q=>⟨(hs.2 b fun z=>?_).trans (R.fz b ob q).1,(R.fz b ob q).2⟩,fun b t o q=>(R.ob b t o q).sameBut hs (fun z=>?_) fun dx q'=>?_⟩
 ·subst z;nomatch h1,q
 ·subst z;nomatch h2,q
 obtain⟨u,h3⟩:=(R.ob _ _ _ q).dx q'
 intro z;subst z;nomatch h2,h3
theorem At.Cs:∀ {G:Gd} {c:Ctx} {φ:FZ} {s:aG} {a:Addr} {h':Heap} {n:Nat} {o':Obj} (h:At φ s σ c G) (ha:a∈c.pv) (hs:Heap.SameBut a s.heap h') (ho:h'.get? a=some o') (hd:∀o,s.heap.get? a=some o→Fm o→Fm o'),At φ {s with heap:=h',toks:=n} σ c G:=by
 revert σ
 rintro σ G c φ s a h' n o':(_)
 w_up
 refine⟨h.rep.Cs (h.pv a ha).1 (h.pv a ha).2.1 hs,fun b hb=>⟨(h.pv b hb).1,(h.pv b hb).2.1,?_⟩,fun aa he=>?_,h.gens⟩
 ·by_cases z:b=a
  ·subst z;exact⟨o',ho,fun z=>z.nf⟩
  obtain⟨o,h3,h4⟩:=(h.pv b hb).2.2;exact⟨o,(hs.2 b z).trans h3,h4⟩
 obtain⟨h1,L,o,h2,h3,h4,h5⟩:=h.bA aa he
 by_cases z:L=a
 ·subst z;exact⟨h1,L,o',h2,h3,ho,hd _ h4 h5⟩
 exact⟨h1,L,o,h2,h3,(hs.2 L z).trans h4,h5⟩
theorem GW:∀ {x:Str} {v:LV} (hk:X.aa.kindOf x=some .local) (h:QA (ρ.put x v) σ),AS ep ρ σ X (fun w=>storeName X.aa x w) QA v:=by
 revert X ρ σ QA ep
 rintro X ρ σ QA ep x v:(_)
 w_up
 intro _
 rintro φ s w:(_)
 intro hA hF rv
 refine Lake.ex1 (hF.ns) ?_
 (first|clear hF.ns|skip)
 rintro m:(_)
 rintro⟨hn,hm⟩:_
 have hL:=Ctx.yV hF.loc
 refine aD (wpAny_storeName_local hk hn (?_) (by rw[hF.fn];rfl))
 rintro h':(_)
 intro nu hs
 refine Lake.ex3 (nu) ?_
 (first|clear nu|skip)
 rintro o' es mE:(_)
 rintro⟨eD,dJ,_⟩:_
 have A':=hA.Cs (n:=s.toks+1) hL hs eD (fun _ _ _=>⟨_,_,dJ⟩)
 have nc:∀y a cv,s.heap.IsCell a cv→X.aa.cells.lookup y=some a→a≠X.aa.locals:=fun y a cv bR _ z=>by
  obtain⟨oc,md,og⟩:=bR;obtain⟨ol,_,_,kK,dX,_⟩:=hn;rw[z,kK]at md;cases md;nomatch dX,og
 refine⟨φ,σ,ρ.put x v,⟨A',.refl _,.sameBut hs (hF.sep _ hF.loc),rfl⟩,⟨hF.fn,hF.gl,hF.bi,hF.loc,⟨_,⟨o',es,mE,eD,dJ,by assumption⟩,fun y u e1 e2=>?_⟩,hF.sep,hF.inj,fun y a e=>?_⟩,h⟩
 ·unfold Loc.put at e1;by_cases z:y=x
  ·subst z;rw[bh rfl]at e1;cases e1;exact⟨w,by rw[bh rfl],rv⟩
  rw[aY z]at e1;rw[aY z];exact hm y u e1 e2
 obtain⟨h1,cv,h2,h3⟩:=hF.cl y a e
 obtain⟨oc,md,og⟩:=h2
 refine⟨h1,cv,⟨oc,(hs.2 a (nc y a cv ⟨oc,md,og⟩ e)).trans md,og⟩,fun u e1 e2=>?_⟩
 unfold Loc.put at e1
 have z:y≠x:=fun z=>by subst z;rw[hk]at e2;rcases e2 with e2|e2<;>cases e2
 rw[aY z]at e1;exact h3 u e1 e2
theorem JZ:∀ {x:Str} {v:LV} {a:Addr} (hk:X.aa.kindOf x=some .cell) (ha:X.aa.cells.lookup x=some a) (ho:a∈X.c.own) (h:QA (ρ.put x v) σ),AS ep ρ σ X (fun w=>storeName X.aa x w) QA v:=by
 revert X ρ σ QA ep
 rintro X ρ σ QA ep x v:(_)
 rintro a:(_)
 w_up
 intro _
 rintro φ s w:(_)
 intro hA hF rv
 obtain⟨h1,cv,h2,h3⟩:=hF.cl x a ha
 refine Lake.ex1 (hF.ns) ?_
 (first|clear hF.ns|skip)
 rintro m:(_)
 rintro⟨hn,hm⟩:_
 refine aD (wpAny_storeName_cell hF.fn hk ha h2 ?_)
 rintro h':(_)
 intro oj hs
 obtain⟨o',eD,dJ⟩:=oj
 have A':=hA.Cs (n:=s.toks) h1 hs eD (fun o q z=>by
  obtain⟨oc,md,og⟩:=h2;nomatch q,md;obtain⟨_,_,z⟩:=z;nomatch og,z)
 have nL:X.aa.locals≠a:=fun z=>by
  obtain⟨oc,md,og⟩:=h2;obtain⟨ol,_,_,kK,dX,_⟩:=hn;rw[z,md]at kK;cases kK;nomatch og,dX
 refine⟨φ,σ,ρ.put x v,⟨A',.refl _,.sameBut hs (hF.sep _ ho),rfl⟩,⟨hF.fn,hF.gl,hF.bi,hF.loc,⟨m,hn.sameBut hs nL,fun y u e1 e2=>?_⟩,hF.sep,hF.inj,fun y b e=>?_⟩,h⟩
 ·unfold Loc.put at e1;have z:y≠x:=by first|exact Lake.cR hk e2|exact Lake.cD hk e2|exact Lake.iI hk e2 rfl|exact Lake.fG hk e2 rfl|exact(fun z=>by subst z;rw[hk]at e2;cases e2)
  rw[aY z]at e1;exact hm y u e1 e2
 by_cases z:b=a
 ·subst z;have:y=x:=hF.inj y x b e ha;subst this;refine⟨h1,some w,⟨o',eD,dJ⟩,fun u e1 e2=>⟨w,rfl,?_⟩⟩;unfold Loc.put at e1;rw[bh rfl]at e1;cases e1;exact rv
 obtain⟨k1,U8,k2,k3⟩:=hF.cl y b e
 obtain⟨oc,md,og⟩:=k2
 refine⟨k1,U8,⟨oc,(hs.2 b z).trans md,og⟩,fun u e1 e2=>?_⟩
 unfold Loc.put at e1
 have z':y≠x:=fun z'=>by subst z';rw[ha]at e;cases e;exact z rfl
 rw[aY z']at e1;exact k3 u e1 e2
theorem Eo{ai:Pos}(h:ET ep X ρ σ e (fun v ah=>AS ep ρ ah X (fun w=>storeName X.aa x w) (fun bt σ'=>Q .next bt σ') v))
 (hs:autoParam (swapsWith e (some (.Name x p)) ai.line X.aa=pure false) Jm.a0):ST ep σ ρ X Q (exec (.Assign [.Name x p] e ai) X.aa):=fun hc φ s hA hF=>by
 refine tF (bG.go (h hc φ s hA hF) (fun v aj aX ah lv ax bD aN=>?_) fun _ _ e=>e.bP) hs
 exact kJ.go (aN hc aX aj v ax.at_ (hF.step ax.ext ax.bT) bD) (fun _ aO bp ae cz aP fQ bE=>⟨bp,ae,cz,.next,ax.bP.trans aP,fQ,rfl,bE⟩) fun _ _ e=>e.up ax.bP
end
noncomputable def fq:List Str→List LV→Loc
 |x::xs,v::vs=>(fq xs vs).put x v
 |_,_=>fun _=>none
theorem tH{v:β}:∀ {ys:List Str} {r:List β},(ys.zip r).lookup x=some v→x∈ys:=by
 intro ys
 induction ys with
 |nil=>intro _ e;cases e
 |cons b bs ih =>
  intro r e;cases r with
  |nil=>cases e
  |cons c cs =>
  rw[List.zip_cons_cons,lookup_cons]at e;by_cases q:x=b
  ·subst q;exact .head _
  rw[beq_false_of_ne q]at e;exact .tail _ (ih e)
theorem rQ:∀ {xs:List Str} {az:List LV} {vs:List Value},bg φ az vs→xs.Nodup→(∀x v,(xs.zip vs).lookup x=some v→m x=some v)→
  ∀x v,fq xs az x=some v→∃w,m x=some w∧VR φ v w:=by
 intro xs
 induction xs with
 |nil=>intro _ _ _ _ _ x v e;cases e
 |cons y ys ih =>
  intro az ws hv hn hm x v e;cases az with
  |nil=>cases e
  |cons a as =>
  obtain⟨w,r,rfl,h1,h2⟩:=hv.cons_inv;have e:(if x=y then some a else fq ys as x)=some v:=e;by_cases z:x=y
  ·subst z;nomatch(bh rfl),e;exact⟨w,hm x w (List.lookup_cons_self ..),h1⟩
  rw[aY z]at e;rw[nodup_cons]at hn;refine ih h2 hn.2 (fun x' v' e'=>hm x' v' ?_) x v e;rw[List.zip_cons_cons,lookup_cons,beq_false_of_ne (fun q:x'=y=>hn.1 (q▸tH e'))];exact e'
theorem Ct:∀ {l:List (Str×β)},(l.map (·.1)).Nodup→∀x v,l.lookup x=some v→l.reverse.lookup x=some v:=by
 intro ll
 induction ll with
 |nil =>
  rintro _ _ _ e;cases e
 |cons p l ih =>
  rintro hn x v e;rw[ew,nodup_cons]at hn;rw[List.reverse_cons,List.lookup_append];rw[lookup_cons]at e;by_cases q:x=p.1
  ·have q':(x==p.1)=true:=by simpa using q
   rw[q']at e
   have:l.reverse.lookup x=none:=by
    rw[List.lookup_eq_none_iff];intro y hy;have:p.1≠y.1:=fun z=>hn.1 (by rw[z];exact i3 (List.mem_reverse.mp hy));simpa[q]using this
   rw[this,lookup_cons,q'];exact e
  have q':(x==p.1)=false:=by simpa using q
  rw[q']at e;rw[ih hn.2 x v e];rfl
theorem AY:∀ {G:Gd} {c c':Ctx} {s₀ s:aG} {φ:FZ} {ep:EP} {e:Value} {aa:Env} {L:Addr} {E:bN} {Q:Unit→aG→Prop} (hs:c'.bA=aa::c.bA) (jL:c'.A.frames=some c'.bA) (hf:aa.frame=some L) (Cu:c'.out=c.pv) (Ep:gP c.bA c.pv s₀.heap) (h:cH G c' c'.out s₀ φ ep e s) (hQ:∀s',cH G c c.pv s₀ φ ⟨false,ep.Q⟩ e s'→Q () s'),wpAny G.M c'.A s E (leaving aa e) Q:=by
 rintro G c c' s₀ s φ ep e aa L E Q:(_)
 w_up
 obtain⟨a,C,t,B,aH,σ',rfl,h2,Va,Vb⟩:=h
 have wD:c'.A.frames=some (aa::c.bA):=by rw[jL,hs]
 have Vc:∀b∈c.pv,b∈c'.pv:=fun b hb=>Ctx.rL (by rw[Cu];exact hb)
 have fin:∀h':Heap,Heap.FlyingW B c.bA a (.ref C) (.ref t) h'→s.heap.UpToSlots h'→Q () {s with heap:=h'}:=fun h' mj Bo=>by
  have y:=h2.turn (h':=h') uk mj.1 Bo;have pk:=y.bT;rw[Cu]at pk;exact hQ _ ⟨a,C,t,B,aH,σ',rfl,⟨y.rep,y.stays,fun b hb=>y.pv b (Vc b hb),y.ext,pk,Ep.of pk,y.os,y.gens⟩,Va,.inl mj⟩
 rcases Vb with mj|hK|hK
 ·rw[hs]at mj;exact aD (wpAny_leaves_onW wD hf mj fun h' x1 x2=>fin h' x1 x2)
 ·obtain⟨Er,yY,LB,e1,e2,hh⟩:=hK;rw[hs]at e1 hh;obtain⟨rfl,rfl⟩:=List.cons.inj e1;unfold leaving;refine leaf (wpAny_noteFrame_againW e2 hh.2.2.2 ?_);refine aD (wpAny_landsW hh fun h' mj sl=>?_);obtain⟨y1,y2,⟨_,_,y3⟩,y4⟩:=mj;exact fin h' ⟨y1,y2,y3,y4⟩ sl
 obtain⟨_,k1,k2,k3,oe,vs,k4,k5,k6,k7,k8⟩:=hK
 rw[hs]at k3
 refine aD (wpAny_leaving_firstW wD k3 hf k4 k1 k2 k6 k8 k7 fun h' hl=>?_)
 obtain⟨y1,⟨_,_,y3⟩,y4,y5⟩:=hl
 rw[k5]at y4
 exact fin h' ⟨y1,k2,y3,y4⟩ y5
theorem Es:∀ {G:Gd} {c:Ctx} {P:List Addr} {s₀ s:aG} {φ:FZ} {ep:EP} {e:Value} {aa:Env} {outer:List Env} {L:Addr} (hP:∀b∈P,b∈c.pv) (jL:c.A.frames=some c.bA) (hs:c.bA=aa::outer) (hf:aa.frame=some L) (LC:ep.fr=false) (h:cH G c P s₀ φ ep e s),cE G.M c.A aa (fL G.M c.A aa (cH G c P s₀ φ ep)) e s:=by
 rintro G c P s₀ s φ ep e aa:(_)
 rintro outer L:(_)
 w_up
 obtain⟨a,C,t,B,aH,σ',rfl,h2,h3,h4⟩:=h
 have wD:c.A.frames=some (aa::outer):=by rw[jL,hs]
 have back:∀h':Heap,Heap.HeldW B c.bA a (.ref C) (.ref t) L h'→s.heap.UpToSlots h'→fL G.M c.A aa (cH G c P s₀ φ ep) (.ref a) {s with heap:=h'}:=fun h' hh sl=>by
  obtain⟨k1,k2,k3,oe,vs,T,oT,ts,q1,q2,q3,q4,q5,q6,q7,q8,q9⟩:=id hh;have LD:3<ts.size:=(Array.getElem?_eq_some_iff.mp q9).1;unfold fL;refine leaf (jW q1 q3 q4 ?_);rw[aY (show ¬((Value.ref T==Value.none)=true)from by simp)];unfold setFlight;refine leaf (jW q1 q3 q4 ?_);rw[bh (show(Value.ref T != Value.none)=true from by simp),hf];have other:∀b,b≠T→(h'.update T (Obj.mapFields (·.setIfInBounds 3 (rawInt L)))).get? b=h'.get? b:=fun b hb=>Heap.get?_update_other _ _ (Ne.symm hb)
  have yZ:∀b o,h'.get? b=some o→(∀vs,o.data≠.fields vs)→b≠T:=fun b o hb Et q=>by
   rw[q,q7]at hb;injection hb with hb;subst hb;exact Et ts q8
  refine aD (wj q7 q8 LD ?_);have kB:B.StaysIn (h'.update T (Obj.mapFields (·.setIfInBounds 3 (rawInt L)))):=fun b o LG=>(other b fun q=>by rw[q,q5]at LG;cases LG).trans (k1 b o LG);have y:=(h2.turn (h':=h') hP k1 sl).turn (h':=h'.update T (Obj.mapFields (·.setIfInBounds 3 (rawInt L)))) hP kB fun b o hb Et=>⟨o.slots,(other b (yZ b o hb Et)).trans hb⟩;refine⟨a,C,t,B,aH,σ',rfl,y,h3,.inr (.inl ⟨aa,outer,L,hs,hf,kB,k2,k3.of_keeps fun b o hb Et=>⟨o,(other b (yZ b o hb Et)).trans hb,rfl⟩,?_⟩)⟩;exact⟨oe,vs,T,_,_,(other a (Ne.symm q6)).trans q1,q2,q3,q4,q5,q6,mZ _ q7 (Obj.isFreed_of_fields (Obj.data_mapFields q8 _)),Obj.data_mapFields q8 _,by simp[LD]⟩
 rcases h4 with mj|hK|hK
 ·unfold cE;rw[hs]at mj;exact aD (wpAny_looks_onW wD hf mj fun h' hh sl=>back h' (by rw[hs];exact hh) sl)
 ·obtain⟨Er,yY,LB,e1,e2,hh⟩:=hK;rw[hs]at e1;obtain⟨rfl,rfl⟩:=List.cons.inj e1;nomatch hf,e2;unfold cE;exact aD (wpAny_noteFrame_againW hf hh.2.2.2 (back s.heap hh (.refl _)))
 obtain⟨q,_⟩:=hK
 nomatch LC,q
noncomputable def Ctx.enter(c:Ctx)(aa:Env)(own:List Addr):Ctx:=⟨c.A.deeper aa,aa::c.bA,own,c.pv⟩
theorem dM.enter{n:Nat}(h:dM (n+1) c)(aa:Env)(own:List Addr):dM n (c.enter aa own):=by
 refine⟨?_,?_,?_,?_⟩
 ·show(c.A.frames.map (aa::·))=_;rw[h.frames];rfl
 ·exact h.handled
 ·have:=h.depth;show c.A.depth+1+10*n≤990;exists this
 have:=h.units;show c.A.units+3+20*n≤9800;exists this
noncomputable def LF.val:LF→LV
 |.ret v=>v
 |_=>.none
noncomputable abbrev LH(X:Fx)(s:aG)(φ:FZ)(t:Sem Flow)(Q:LF→Loc→St→Prop)(ep:EP):Prop:=
 wpAny X.G.M X.c.A s (cH X.G X.c X.c.out s φ ep) t (ki X s φ Q)
theorem uV{val:α→Value}{t:Sem α}{n:Nat}(hc:dM (n+1) c)(s8:At φ s σ c G)
 (hf:aa.frame=some L)(hk:eH c.pv s.heap aj.heap)(ho:aj.os=s.os)
 (h:wpAny G.M (c.A.deeper aa) aj (cH G (c.enter aa own) c.pv aj φ ep) t (fun a s'=>bG G (c.enter aa own) c.pv VR aj φ Q (val a) s')) :
  wpAny G.M (c.A.deeper aa) aj (fun e s'=>wpAny G.M (c.A.deeper aa) s' (fun e' bQ=>iC G c s φ Q ⟨false,ep.Q⟩ (.error e') bQ) (leaving aa e) (fun _ bQ=>iC G c s φ Q ⟨false,ep.Q⟩ (.error e) bQ)) t (fun a s'=>iC G c s φ Q ⟨false,ep.Q⟩ (.ok (.ret (val a))) s'):=by
 have oj:=hc.enter aa own
 refine aL h (fun f s' x=>x.el fun aH σ' lv S r q=>?_) fun e s' he=>?_
 ·have pk:eH c.pv s.heap s'.heap:=hk.trans S.bT;have A':At aH s' σ' c G:=⟨S.at_.rep,fun b hb=>S.at_.pv b (Ctx.rL hb),s8.bA.of pk,S.at_.gens⟩;exact⟨aH,σ',lv,⟨A',S.ext,pk,S.os.trans ho⟩,r,q⟩
 have uW:cH G (c.enter aa own) (c.enter aa own).out s φ ep e s':=by
  obtain⟨a,C,t,B,aH,σ',h1,h2,h3,h4⟩:=he;exact⟨a,C,t,B,aH,σ',h1,⟨h2.rep,h2.stays,h2.pv,h2.ext,hk.trans h2.bT,h2.bA,h2.os.trans ho,h2.gens⟩,h3,h4⟩
 exact AY (c':=c.enter aa own) (by rfl) oj.frames hf (by rfl) s8.bA uW fun bQ hr=>hr
theorem uX{n:Nat}(hc:dM (n+1) c)(s8:At φ s σ c G)
 (hf:aa.frame=some L)(hk:eH c.pv s.heap aj.heap)(ho:aj.os=s.os)
 (h:LH ⟨G,c.enter aa own,aa,n⟩ aj φ (execs aZ aa) (fun lf _ σ'=>Q lf.val σ') ep) :
  wpAny G.M (c.A.deeper aa) aj (fun e s'=>wpAny G.M (c.A.deeper aa) s' (fun e' bQ=>iC G c s φ Q ⟨false,ep.Q⟩ (.error e') bQ) (leaving aa e) (fun _ bQ=>iC G c s φ Q ⟨false,ep.Q⟩ (.error e) bQ)) (execs aZ aa) (fun f s'=>iC G c s φ Q ⟨false,ep.Q⟩ (.ok (.ret (match f with|.ret v=>v|_=>.none))) s'):=
 uV (own:=own) (val:=fun f=>match f with|.ret v=>v|_=>.none) hc s8 hf hk ho (ki.gg h (fun f s' aH σ' bt lf S F' r q=>⟨aH,σ',lf.val,S,by
  cases lf with
  |ret v=>obtain⟨w,rfl,rw⟩:=r;exact rw
  |next=>have e:f=.next:=r;subst e;rfl
  |brk=>have e:f=.brk:=r;subst e;rfl
  |cont=>have e:f=.cont:=r;subst e;rfl,q⟩))
theorem Eu{n:Nat}(hc:dM (n+1) c)(s8:At φ s σ c G)
 (hf:aa.frame=some L)(hA:At φ aj σ (c.enter aa own) G)(hF:cV aa (c.enter aa own) ρ φ aj.heap)(hk:eH c.pv s.heap aj.heap)(ho:aj.os=s.os)
 (h:ST ep σ ρ ⟨G,c.enter aa own,aa,n⟩ (fun lf _ σ'=>Q lf.val σ') (execs aZ aa)) :
  wpAny G.M (c.A.deeper aa) aj (fun e s'=>wpAny G.M (c.A.deeper aa) s' (fun e' bQ=>iC G c s φ Q ⟨false,ep.Q⟩ (.error e') bQ) (leaving aa e) (fun _ bQ=>iC G c s φ Q ⟨false,ep.Q⟩ (.error e) bQ)) (execs aZ aa) (fun f s'=>iC G c s φ Q ⟨false,ep.Q⟩ (.ok (.ret (match f with|.ret v=>v|_=>.none))) s'):=
 uX (own:=own) hc s8 hf hk ho (h (hc.enter aa own) φ aj hA hF)
theorem Ew:∀ {G:Gd} {n:Nat} {c:Ctx} {φ:FZ} {s:aG} {vs:List Value} {f:Addr} {fo:Obj} {fd:FuncData} {aZ:List Stmt} {names:List Str} {az:List LV} {σ:St} {Q:LV→St→Prop} {ep:EP} (hc:dM (n+1) c) (hA:At φ s σ c G) (hv:bg φ az vs) (hK:s.heap.get? f=some fo) (hd:fo.data=.func fd) (gY:fd.body=.stmts aZ) (gc:s.heap.CodeRec fd.code fd.qualname) (dB:vs.length=az.length→BindsTo s fd ⟨vs,[]⟩ (names.zip vs)) (hlen:names.length=az.length) (fB:names.Nodup) (jg:∀x∈fd.scope.names,x.2≠.cell) (lG:∀x∈names,fd.scope.names.lookup x=some .local) (uY:fd.globals=mainGlobals) (uZ:fd.builtins=builtinsNs) (jX:fd.closure=[]) (h:∀(L:Addr) (aj:aG),At φ aj σ (c.enter (callEnv fd L f) [L]) G→cV (callEnv fd L f) (c.enter (callEnv fd L f) [L]) (fq names az) φ aj.heap→eH c.pv s.heap aj.heap→LH ⟨G,c.enter (callEnv fd L f) [L],callEnv fd L f,n⟩ aj φ (execs aZ (callEnv fd L f)) (fun lf _ σ'=>Q lf.val σ') ep) (ma:fd.scope.isCoroutine=false) (i5:fd.scope.isGenerator=false) (hk:fd.scope.kind=.function),bw G.M c.A (.call (.ref f) ⟨vs,[]⟩) (iC G c s φ Q ⟨false,ep.Q⟩) s:=by
 rintro G n c φ s vs f fo fd aZ names az:(_)
 rintro σ Q ep:(_)
 w_up
 have hl:vs.length=az.length:=hv.length
 have y0:c.A.depth<recursionLimit:=by have:=hc.depth;show c.A.depth<1000;exists this
 refine ue (binds:=names.zip vs) y0 hK hd hA.rep.nolimit gc gY (dB hl) jg (fun x hx=>lG x.1 ?_) (fun h₀ iV jT=>?_) ma i5 hk
 ·exact(List.of_mem_zip hx).1
 have hL:s.heap.get? s.heap.objs.size=none:=bC _
 have f6:=hA.keeps (n:=s.toks+(names.zip vs).length) jT
 obtain⟨f1,f2,f3⟩:=hA.fresh hL
 have y9:=iV
 obtain⟨oL,es,mE,xm,Ey,_⟩:=y9
 have xo:Fm oL:=⟨_,_,Ey⟩
 have jL:(callEnv fd s.heap.objs.size f).frame=some s.heap.objs.size:=rfl
 have um:At φ {s with heap:=h₀,toks:=s.toks+(names.zip vs).length} σ (c.enter (callEnv fd s.heap.objs.size f) [s.heap.objs.size]) G:=by
  refine⟨f6.rep,fun b hb=>?_,fun aa he=>?_,f6.gens⟩
  ·rcases eG hb with hb|hb
   ·rw[dE hb];exact⟨f1,f2,oL,xm,fun _=>xo.nf⟩
   exact f6.pv b hb
  rcases eb he with rfl|he
  ·exact⟨by show fd.scope.kind≠.module;rw[hk];decide,_,oL,jL,ik _ (.head _),xm,xo⟩
  obtain⟨x1,L,o,x2,x3,x4⟩:=f6.bA aa he;exact⟨x1,L,o,x2,il _ x3,x4⟩
 refine uX (own:=[s.heap.objs.size]) hc hA jL (.keeps jT) rfl (h _ _ um ⟨hk,uY,uZ,.head _,⟨_,iV,fun x v e _=>?_⟩,fun b hb fV=>?_,fun x y a e=>?_,fun x a e=>?_⟩ (.keeps jT))
 ·refine rQ hv fB (fun x' v' e'=>Ct ?_ x' v' e') x v e;rw[List.map_fst_zip (by rw[hlen,hl];exact fg _)];exact fB
 ·rw[dE hb]at fV;exact f3 fV
 ·have:fd.closure.lookup x=some a:=e;nomatch jX,this
 have:fd.closure.lookup x=some a:=e
 nomatch jX,this
theorem CallT.fn{n:Nat}{f:Addr}{fd:FuncData}
 (hK:G.K.lookup f=some fo)(hd:fo.data=.func fd)(gY:fd.body=.stmts aZ)(gc:codeIn G.K fd.code fd.qualname=true)
 (dB:∀(s:aG) (vs:List Value),G.K.In s.heap→vs.length=az.length→BindsTo s fd ⟨vs,[]⟩ (names.zip vs))(hlen:names.length=az.length)(fB:names.Nodup)
 (jg:∀x∈fd.scope.names,x.2≠.cell)(lG:∀x∈names,fd.scope.names.lookup x=some .local)
 (uY:fd.globals=mainGlobals)(uZ:fd.builtins=builtinsNs)(jX:fd.closure=[])
 (h:∀(c:Ctx) (L:Addr),ST ep σ (fq names az) ⟨G,c.enter (callEnv fd L f) [L],callEnv fd L f,n⟩ (fun lf _ σ'=>Q lf.val σ') (execs aZ (callEnv fd L f)))
 (ma:autoParam (fd.scope.isCoroutine=false) Jm.a0)(i5:autoParam (fd.scope.isGenerator=false) Jm.a0)(hk:autoParam (fd.scope.kind=.function) Jm.a0):CallT (n+1) ⟨false,ep.Q⟩ (.ref f) G σ Q az:=fun c φ s vs hc hA hv=>by
 exact Ew hc hA hv (hA.rep.K _ _ hK) hd gY (codeRec_of hA.rep.K gc) (dB s vs hA.rep.K) hlen fB jg lG uY uZ jX (fun L aj yr oo _=>h c L (hc.enter _ _) φ aj yr oo) ma i5 hk
theorem AZ{K:Str→Option NameKind}:∀ {binds:List (Str×Value)} {m:Str→Option Value},x∉binds.map (·.1)→bindL K binds m x=m x:=by
 intro binds
 induction binds with
 |nil=>intro _ _;rfl
 |cons p r ih =>
  intro m h;obtain⟨n,v⟩:=p;rw[ew,mem_cons,not_or]at h;unfold bindL;rw[ih h.2];split
  ·show(if x=n then some v else m x)=m x;rw[aY h.1]
  rfl
theorem A0{K:Str→Option NameKind}:∀ {binds:List (Str×Value)} {m:Str→Option Value},x∉binds.map (·.1)→bindC K binds m x=m x:=by
 intro binds
 induction binds with
 |nil=>intro _ _;rfl
 |cons p r ih =>
  intro m h;obtain⟨n,v⟩:=p;rw[ew,mem_cons,not_or]at h;unfold bindC;rw[ih h.2];split
  ·rfl
  show(if x=n then some v else m x)=m x;rw[aY h.1]
theorem GX{K:Str→Option NameKind}(hx:K x=some .local):∀ {binds:List (Str×Value)} {m:Str→Option Value},(binds.map (·.1)).Nodup→binds.lookup x=some w→bindL K binds m x=some w:=by
 intro binds
 induction binds with
 |nil=>intro _ _ e;cases e
 |cons p r ih =>
  intro m hn e;obtain⟨n,v⟩:=p;rw[ew,nodup_cons]at hn;rw[lookup_cons]at e;unfold bindL;by_cases q:x=n
  ·subst q;have q':(x==x)=true:=beq_self_eq_true x;nomatch q',e;rw[AZ hn.1,bh hx,bh rfl]
  have q':(x==n)=false:=beq_false_of_ne q;rw[q']at e;exact ih hn.2 e
theorem GY{K:Str→Option NameKind}(hx:K x≠some .local):∀ {binds:List (Str×Value)} {m:Str→Option Value},(binds.map (·.1)).Nodup→binds.lookup x=some w→bindC K binds m x=some w:=by
 intro binds
 induction binds with
 |nil=>intro _ _ e;cases e
 |cons p r ih =>
  intro m hn e;obtain⟨n,v⟩:=p;rw[ew,nodup_cons]at hn;rw[lookup_cons]at e;unfold bindC;by_cases q:x=n
  ·subst q;have q':(x==x)=true:=beq_self_eq_true x;nomatch q',e;rw[A0 hn.1,aY hx,bh rfl]
  have q':(x==n)=false:=beq_false_of_ne q;rw[q']at e;exact ih hn.2 e
noncomputable def Cv(fd:FuncData)(L:Addr):List Addr:=L::(cellsFrom (L+1) fd.scope.names []).map (·.2)
theorem CallT.QE{n:Nat}{f:Addr}{fd:FuncData}
 (hK:G.K.lookup f=some fo)(hd:fo.data=.func fd)(gY:fd.body=.stmts aZ)(gc:codeIn G.K fd.code fd.qualname=true)
 (dB:∀(vs:List Value),vs.length=az.length→bindArgs fd ⟨vs,[]⟩=pure (names.zip vs))(hlen:names.length=az.length)(fB:names.Nodup)
 (ir:(names.all fun y=>fd.scope.names.lookup y==some .local||fd.scope.names.lookup y==some .cell)=true)
 (rR:((cellsFrom 0 fd.scope.names []).map (·.1)).Nodup)(uY:fd.globals=mainGlobals)(uZ:fd.builtins=builtinsNs)(jX:fd.closure=[])
 (h:∀(c:Ctx) (L:Addr),ST ep σ (fq names az) ⟨G,c.enter (callEnvC fd L f) (Cv fd L),callEnvC fd L f,n⟩ (fun lf _ σ'=>Q lf.val σ') (execs aZ (callEnvC fd L f)))
 (ma:autoParam (fd.scope.isCoroutine=false) Jm.a0)(i5:autoParam (fd.scope.isGenerator=false) Jm.a0)(hk:autoParam (fd.scope.kind=.function) Jm.a0):CallT (n+1) ⟨false,ep.Q⟩ (.ref f) G σ Q az:=fun c φ s vs hc hA hv=>by
 have hl:vs.length=az.length:=hv.length
 have X:=hA.rep.K
 have y0:c.A.depth<recursionLimit:=by have:=hc.depth;show c.A.depth<1000;exists this
 have qm:((names.zip vs).all fun y=>fd.scope.names.lookup y.1==some .local||fd.scope.names.lookup y.1==some .cell)=true:=by
  rw[all_eq_true]at ir ⊢;intro y hy;exact ir y.1 (List.of_mem_zip hy).1
 have LJ:(names.zip vs).map (·.1)=names:=List.map_fst_zip (by rw[hlen,hl];exact fg _)
 refine rH (au:=vs) (binds:=names.zip vs) y0 (X _ _ hK) hd hA.rep.nolimit (codeRec_of X gc) gY (dB vs hl) jX (kindsX qm _) (fun aj IC=>?_) ma i5 hk
 obtain⟨aN,tk,rfl,jT⟩:=IC.done
 have hL:s.heap.get? s.heap.objs.size=none:=bC _
 have f6:=hA.keeps (n:=tk) jT
 have iV:=IC.toInCall.ns
 have y9:=iV
 obtain⟨oL,es,mE,xm,Ey,_⟩:=y9
 have xo:Fm oL:=⟨_,_,Ey⟩
 have jL:(callEnvC fd s.heap.objs.size f).frame=some s.heap.objs.size:=rfl
 have Vd:(callEnvC fd s.heap.objs.size f).cells=cellsFrom (s.heap.objs.size+1) fd.scope.names []:=rfl
 have dS:∀a∈(cellsFrom (s.heap.objs.size+1) fd.scope.names []).map (·.2),s.heap.get? a=none∧∃o,aN.get? a=some o∧∀vs,o.data≠.fields vs:=fun a ha=>by
  obtain⟨⟨x,a'⟩,hm,rfl⟩:=gB ha;have Ez:=IC.above x a' hm;have Ez:s.heap.objs.size<a':=Ez;refine⟨jz (Nat.le_of_lt Ez),?_⟩;obtain⟨o,ho,Ve⟩:=IC.cell x a' (lookup_of_mem_nodup (cellsFrom_names fd.scope.names 0 (s.heap.objs.size+1) [] [] rfl▸rR) hm);exact⟨o,ho,fun vs q=>by nomatch Ve,q⟩
 have LK:∀b∈Cv fd s.heap.objs.size,s.heap.get? b=none∧∃o,aN.get? b=some o∧∀vs,o.data≠.fields vs:=fun b hb=>by
  rcases eb hb with rfl|hb
  ·exact⟨hL,oL,xm,xo.nf⟩
  exact dS b hb
 refine Eu (own:=Cv fd s.heap.objs.size) (ρ:=fq names az) hc hA jL ⟨f6.rep,fun b hb=>?_,fun aa he=>?_,f6.gens⟩ ⟨hk,uY,uZ,.head _,⟨_,iV,fun x v e e2=>?_⟩,fun b hb fV=>?_,fun x y a e e'=>?_,fun x a e=>?_⟩ (.keeps jT) rfl (h c _)
 ·rcases eG hb with hb|hb
  ·obtain⟨g1,g2⟩:=LK b hb;exact⟨(hA.fresh g1).1,(hA.fresh g1).2.1,g2.imp fun o z=>⟨z.1,fun _=>z.2⟩⟩
  exact f6.pv b hb
 ·rcases eb he with rfl|he
  ·exact⟨by show fd.scope.kind≠.module;rw[hk];decide,_,oL,jL,ik _ (.head _),xm,xo⟩
  obtain⟨x1,L,o,x2,x3,x4⟩:=f6.bA aa he;exact⟨x1,L,o,x2,il _ x3,x4⟩
 ·obtain⟨w,h1,h2⟩:=rQ (m:=fun y=>(names.zip vs).lookup y) hv fB (fun x' v' e'=>e') x v e;exact⟨w,GX e2 (by rw[LJ];exact fB) h1,h2⟩
 ·exact(hA.fresh (LK b hb).1).2.2 fV
 ·exact name_of_addr IC.apart (mem_of_lookup e) (mem_of_lookup e')
 have Sr:a∈Cv fd s.heap.objs.size:=.tail _ (mem_map.mpr ⟨(x,a),mem_of_lookup e,rfl⟩)
 refine⟨ik _ Sr,_,IC.cell x a e,fun v e1 e2=>?_⟩
 obtain⟨w,h1,h2⟩:=rQ (m:=fun y=>(names.zip vs).lookup y) hv fB (fun x' v' e'=>e') x v e1
 refine⟨w,GY (fun q=>?_) (by rw[LJ];exact fB) h1,h2⟩
 rw[q]at e2;rcases e2 with e2|e2<;>cases e2
noncomputable def O3(X:Fx)(op:Value→Value→Value→Sem Unit)(a b d:LV)(σ:St)(Q:St→Prop)(ep:EP):Prop:=
 dM X.n X.c→∀φ s va vb vd,At φ s σ X.c X.G→VR φ a va→VR φ b vb→VR φ d vd→TB GQ s s φ X.G X.c X.c.pv ep (op va vb vd) (fun _ σ'=>Q σ')
section
variable {X:Fx}{ρ:Loc}{σ:St}{Q:LF→Loc→St→Prop}{QA:Loc→St→Prop}{QV:LV→St→Prop}{ep:EP}
theorem cL{ep:EP}{x:Str}{p:Pos}{X:Fx}{σ:St}{v:LV}{ρ:Loc}{QA:Loc→St→Prop}(h:AS ep ρ σ X (fun w=>storeName X.aa x w) QA v):AS ep ρ σ X (assign (.Name x p) X.aa) QA v:=fun hc φ s w hA hF rv =>
 tG (h hc φ s w hA hF rv)
theorem Ka(h:ET ep X ρ σ o (fun ov ah=>OU X (fun o v=>setAttr o name v) ov v ah (fun ae=>QA ρ ae) ep)):AS ep ρ σ X (assign (.Attribute o name p) X.aa) QA v:=fun hc φ s w hA hF rv=>by
 rw[assign_Attribute]
 refine ak (bo (bG.go (h hc φ s hA hF) (fun vo aj aX ah lo ax bD aN=>?_) fun _ _ e=>e.bP))
 refine ak (dW (ak (bo (bG.go (aN hc aX aj vo w ax.at_ bD (rv.mono ax.ext)) (fun _ aO bp ae _ aP _ bE=>?_) fun _ _ e=>(e.up ax).bP))))
 have S:=ax.trans aP
 exact aD (wpAny_release' ⟨bp,ae,ρ,S.bP,hF.step S.ext S.bT,bE⟩)
theorem LL{i:Expr}(h:ET ep X ρ σ o (fun ov ah=>ET ep X ρ ah i (fun iv ae=>O3 X setItem ov iv v ae (fun bz=>QA ρ bz) ep))):AS ep ρ σ X (assign (.Subscript o i p) X.aa) QA v:=fun hc φ s w hA hF rv=>by
 rw[assign_Subscript]
 refine ak (bo (bG.go (h hc φ s hA hF) (fun vo aj aX ah lo ax bD aN=>?_) fun _ _ e=>e.bP))
 refine ak (bo (bG.go (aN hc aX aj ax.at_ (hF.step ax.ext ax.bT)) (fun vi aO bp ae li aP cJ bE=>?_) fun _ _ e=>(e.up ax).bP))
 have iB:=ax.trans aP
 refine ak (dW (ak (bo (bG.go (bE hc bp aO vo vi w aP.at_ (bD.mono aP.ext) cJ (rv.mono iB.ext)) (fun _ bI fU bz _ cS _ gJ=>?_) fun _ _ e=>(e.up iB).bP))))
 have S:=iB.trans cS
 exact aD (wpAny_release' ⟨fU,bz,ρ,S.bP,hF.step S.ext S.bT,gJ⟩)
noncomputable def Bq(X:Fx):List (Value→Sem Unit)→Loc→St→List LV→(Loc→St→Prop)→EP→Prop
 |[],ρ,σ,_,Q,_=>Q ρ σ
 |t::ts,ρ,σ,v::vs,Q,ep=>AS ep ρ σ X t (fun aC ah=>Bq X ts aC ah vs Q ep) v
 |_::_,ρ,σ,[],Q,_=>Q ρ σ
theorem wF:∀ {ts:List (Value→Sem Unit)} {vs:List LV} {ρ:Loc} {σ:St},Bq X ts ρ σ vs QA ep→dM X.n X.c→∀ {φ:FZ} {s:aG} {ws:List Value},At φ s σ X.c X.G→cV X.aa X.c ρ φ s.heap→bg φ vs ws→
  wpAny X.G.M X.c.A s (cH X.G X.c X.c.out s φ ep) (assignInOrder ts ws) (fun _=>kJ X s φ QA):=by
 intro ts
 induction ts with
 |nil =>
  intro vs ρ σ h _ φ s ws hA hF _;cases ws<;>exact ao ⟨φ,σ,ρ,.refl hA,hF,h⟩
 |cons t ts ih =>
  intro vs ρ σ h hc φ s ws hA hF hv;cases vs with
  |nil =>
   have:ws=[]:=bg.bO.mp hv;subst this;exact ao ⟨φ,σ,ρ,.refl hA,hF,h⟩
  |cons v vs =>
   obtain⟨w,r,rfl,h1,h2⟩:=hv.cons_inv;refine ni (kJ.gg (h hc φ s w hA hF h1) (fun _ aj aX ah aC ax jZ aN=>?_));exact kJ.go (ih aN hc ax.at_ jZ (h2.mono ax.ext)) (fun _ aO bp ae cz aP fQ bE=>⟨bp,ae,cz,ax.trans aP,fQ,bE⟩) fun _ _ e=>e.up ax
theorem kj{h:Heap}(x:Heap.ExtBut h.objs.size h h'):∀b o,h.get? b=some o→h'.get? b=some o:=fun b o e=>x b o (m9 (kq e)) e
theorem za{σ:St}(hA:At φ s σ X.c X.G)(h:VR φ (.tup vs) w):∃a xs,w=.ref a∧IsTup s.heap a xs∧bg φ vs xs.toList:=by
 simp only[lh,ky,kz,kA,kE,kF,kG,ke,kg,ix,iy,iA]at h
 obtain⟨a,o,xs,n,rfl,h2,h3,h4,h5⟩:=h
 exact⟨a,xs,rfl,⟨o,(hA.rep.fz _ _ h2).1,h3,n,h4⟩,h5⟩
theorem GZ(hl:(assignEach elts X.aa).length=vs.length)(mL:(assignEach elts X.aa).findIdx? (·.1)=none)
 (h:Bq X ((assignEach elts X.aa).map (·.2)) ρ σ vs QA ep):AS ep ρ σ X (assign (.Tuple elts k p) X.aa) QA (.tup vs):=fun hc φ s w hA hF rv=>by
 obtain⟨a,xs,rfl,ht,hv⟩:=za hA rv
 have hs:xs.size=vs.length:=by rw[← hv.length];simp
 refine rG hc.handled ht (by rw[hl,hs]) mL fun h' he=>?_
 have S:aV X.G X.c X.c.out s φ {s with heap:=h'} φ σ:=(aV.keeps hA (n:=s.toks) (kj he)).bP
 exact kJ.go (wF h hc S.at_ (hF.step (.refl _) (.keeps (kj he))) hv) (fun _ aO bp ae cz aP fQ bE=>⟨bp,ae,cz,S.trans aP,fQ,bE⟩) fun _ _ e=>e.up S
theorem mN{t:Expr}{ai:Pos}(h:ET ep X ρ σ e (fun v ah=>AS ep ρ ah X (assign t X.aa) (fun bt σ'=>Q .next bt σ') v))
 (hs:autoParam (swapsWithSole [t] e ai.line X.aa=pure false) Jm.a0)(hw:autoParam (swappedStores [t] e X.aa=pure none) Jm.a0)(he:autoParam ((assignEach [t] X.aa).map (·.2)=[assign t X.aa]) Jm.a0):ST ep σ ρ X Q (exec (.Assign [t] e ai) X.aa):=fun hc φ s hA hF=>by
 refine rk (bG.go (h hc φ s hA hF) (fun v aj aX ah lv ax bD aN=>?_) fun _ _ e=>e.bP) hs hw
 rw[he]
 exact kJ.go (aN hc aX aj v ax.at_ (hF.step ax.ext ax.bT) bD) (fun _ aO bp ae cz aP fQ bE=>⟨bp,ae,cz,.next,ax.bP.trans aP,fQ,rfl,bE⟩) fun _ _ e=>e.up ax.bP
theorem bg.reverse:∀ {vs:List LV} {ws:List Value},bg φ vs ws→bg φ vs.reverse ws.reverse:=by
 intro ll
 induction ll with
 |nil =>
  rintro _ h;have:=bg.bO.mp h;subst this;exact h
 |cons v vs ih =>
  rintro _ h;obtain⟨w,r,rfl,h1,h2⟩:=h.cons_inv;rw[List.reverse_cons,List.reverse_cons];exact(ih h2).append (bg.cZ.mpr ⟨h1,bg.bO.mpr rfl⟩)
theorem Cw:∀ {elts:List Expr} {k:Nat} {iO ai:Pos} {e:Expr} {names:List Str} {n:Nat} (hn:names.length=n) (h:ET ep X ρ σ e (fun v ah=>∃vs,v=.tup vs∧vs.length=n∧Bq X (names.reverse.map fun x w=>bindName X.aa x w) ρ ah vs.reverse (fun bt σ'=>Q .next bt σ') ep)) (hs:autoParam (swapsWithSole [.Tuple elts k iO] e ai.line X.aa=pure false) Jm.a0) (hw:autoParam (swappedStores [.Tuple elts k iO] e X.aa=pure (some names)) Jm.a0),ST ep σ ρ X Q (exec (.Assign [.Tuple elts k iO] e ai) X.aa):=by
 revert X ρ σ Q ep
 rintro X ρ σ Q ep elts k iO ai e names n:(_)
 w_up
 intro hc
 rintro φ s:(_)
 intro hA hF
 refine qj (bG.go (h hc φ s hA hF) (fun v aj aX ah lv ax bD iX=>?_) fun _ _ e=>e.bP) hs hw
 obtain⟨vs,qX,hl,aN⟩:=iX
 subst qX
 obtain⟨a,xs,rfl,ht,hv⟩:=za ax.at_ bD
 have hsz:names.length=xs.size:=by rw[hn,← hl,← hv.length];simp
 rw[hsz]
 refine aD (unpackItems_tuple hc.handled ht fun h' he=>?_)
 have S:aV X.G X.c X.c.out s φ {aj with heap:=h'} aX ah:=(ax.trans (aV.keeps ax.at_ (n:=aj.toks) (kj he))).bP
 have F':=(hF.step ax.ext ax.bT).step (.refl _) (.keeps (kj he))
 exact kJ.go (wF aN hc S.at_ F' hv.reverse) (fun _ aO bp ae cz aP fQ bE=>⟨bp,ae,cz,.next,S.trans aP,fQ,rfl,bE⟩) fun _ _ e=>e.up S
theorem Kb(h:AS ep ρ σ X (fun w=>storeName X.aa x w) QA v):AS ep ρ σ X (fun w=>bindName X.aa x w) QA v:=fun hc φ s w hA hF rv=>lC (h hc φ s w hA hF rv)
theorem Cx:∀ {o bJ:Expr} {name:Str} {iO ai:Pos} {op:Operator} (h:ET ep X ρ σ o (fun ov ah=>O1 X (fun o=>getAttr o name true) ov ah (fun old ae=>ET ep X ρ ae bJ (fun v bz=>O2 bz v ep X (fun new cg=>OU X (fun o v=>setAttr o name v) ov new cg (fun dZ=>Q .next ρ dZ) ep) (inplaceOp op) old)) ep)),ST ep σ ρ X Q (exec (.AugAssign (.Attribute o name iO) op bJ ai) X.aa):=by
 revert X ρ σ Q ep
 rintro X ρ σ Q ep o bJ name iO:(_)
 rintro ai op:(_)
 w_up
 intro hc
 rintro φ s:(_)
 intro hA hF
 refine lF (bG.go (h hc φ s hA hF) (fun vo aj aX ah lo ax bD aN=>?_) fun _ _ e=>e.bP)
 refine bG.go (aN hc aX aj vo ax.at_ bD) (fun vd aO bp ae ld aP cJ bE=>?_) fun _ _ e=>(e.up ax).bP
 have qo:=ax.trans aP
 refine bG.go (bE hc bp aO aP.at_ (hF.step qo.ext qo.bT)) (fun vv bI fU bz lv cS zb gJ=>?_) fun _ _ e=>(e.up qo).bP
 have qp:=qo.trans cS
 refine bG.go (gJ hc fU bI vd vv cS.at_ (cJ.mono cS.ext) zb) (fun vn gS gw cg ln fZ rS i7=>?_) fun _ _ e=>(e.up qp).bP
 have g5:=qp.trans fZ
 refine bG.go (i7 hc gw gS vo vn fZ.at_ (bD.mono ((aP.ext.trans cS.ext).trans fZ.ext)) rS) (fun _ gT jR dZ _ eS _ lH=>?_) fun _ _ e=>(e.up g5).bP
 have kH:=g5.trans eS
 exact⟨jR,dZ,ρ,.next,kH.bP,hF.step kH.ext kH.bT,rfl,lH⟩
theorem EB:∀ {o i bJ:Expr} {iO ai:Pos} {op:Operator} (h:ET ep X ρ σ o (fun ov ah=>ET ep X ρ ah i (fun iv ae=>O2 ae iv ep X (fun old bz=>ET ep X ρ bz bJ (fun v cg=>O2 cg v ep X (fun new dZ=>O3 X setItem ov iv new dZ (fun fN=>Q .next ρ fN) ep) (inplaceOp op) old)) getItem ov))) (hi:autoParam (∀ov iv new,augStore i ov iv new=(do holding [new,ov,iv] (setItem ov iv new);release [new,ov,iv] [];pure .next)) Jm.a4),ST ep σ ρ X Q (exec (.AugAssign (.Subscript o i iO) op bJ ai) X.aa):=by
 revert X ρ σ Q ep
 rintro X ρ σ Q ep o i bJ iO:(_)
 rintro ai op:(_)
 w_up
 intro hc
 rintro φ s:(_)
 intro hA hF
 refine lE (bG.go (h hc φ s hA hF) (fun vo aj aX ah lo ax bD aN=>?_) fun _ _ e=>e.bP) hi
 refine bG.go (aN hc aX aj ax.at_ (hF.step ax.ext ax.bT)) (fun vi aO bp ae li aP cJ bE=>?_) fun _ _ e=>(e.up ax).bP
 have qo:=ax.trans aP
 refine bG.go (bE hc bp aO vo vi aP.at_ (bD.mono aP.ext) cJ) (fun vd bI fU bz ld cS zb gJ=>?_) fun _ _ e=>(e.up qo).bP
 have qp:=qo.trans cS
 refine bG.go (gJ hc fU bI cS.at_ (hF.step qp.ext qp.bT)) (fun vv gS gw cg lv fZ rS i7=>?_) fun _ _ e=>(e.up qp).bP
 have g5:=qp.trans fZ
 refine bG.go (i7 hc gw gS vd vv fZ.at_ (zb.mono fZ.ext) rS) (fun vn gT jR dZ ln eS Ss lH=>?_) fun _ _ e=>(e.up g5).bP
 have kH:=g5.trans eS
 refine bG.go (lH hc jR gT vo vi vn eS.at_ (bD.mono (((aP.ext.trans cS.ext).trans fZ.ext).trans eS.ext)) (cJ.mono ((cS.ext.trans fZ.ext).trans eS.ext)) Ss) (fun _ jY jj fN _ gU _ ui=>?_) fun _ _ e=>(e.up kH).bP
 have Cy:=kH.trans gU
 exact⟨jj,fN,ρ,.next,Cy.bP,hF.step Cy.ext Cy.bT,rfl,ui⟩
theorem Vf{b:Int}{ep:EP}{X:Fx}{σ:St}{a:Int}{Q:LV→St→Prop}(h:Q (.int (a+b)) σ):O2 σ (.int b) ep X Q (inplaceOp .Add) (.int a):=eY h fun _ _ _ _ _ q=>iadd_int q
theorem Vg{a b:Int}{Q:LV→St→Prop}(h:Q (.int (a-b)) σ):O2 σ (.int b) ep X Q (inplaceOp .Sub) (.int a):=eY h fun _ _ _ _ _ q=>isub_int q
end
noncomputable def Ctx.add(c:Ctx)(its:List Addr):Ctx:=⟨c.A,c.bA,c.own,its++c.out⟩
noncomputable def Fx.add(X:Fx)(its:List Addr):Fx:=⟨X.G,X.c.add its,X.aa,X.n⟩
theorem dM.add{n:Nat}(h:dM n c)(its:List Addr):dM n (c.add its):=⟨h.frames,h.handled,h.depth,h.units⟩
theorem jM{b:Addr}:b∈(c.add its).pv↔b∈its∨b∈c.pv:=by
 simp only[Ctx.pv,Ctx.add,mem_append]
 constructor
 ·rintro(h|h|h)
  ·exact .inr (.inl h)
  ·exact .inl h
  exact .inr (.inr h)
 rintro(h|h|h)
 ·exact .inr (.inl h)
 ·exact .inl h
 exact .inr (.inr h)
theorem gP.drop:∀ {bA:List Env} {pv QF:List Addr} {h h':Heap} (x:gP bA pv h) (y:gP bA QF h'),gP bA pv h':=by
 rintro bA pv QF h h':(_)
 w_up
 intro aa he
 obtain⟨h1,L,o,h2,h3,_⟩:=x aa he
 obtain⟨_,L',o',k2,k3,k4⟩:=y aa he
 nomatch h2,k2
 exact⟨h1,L,o',h2,h3,k4⟩
theorem At.drop(x:At φ s σ (c.add its) G)(y:gP c.bA c.pv h₀):At φ s σ c G:=
 ⟨x.rep,fun b hb=>x.pv b (jM.mpr (.inr hb)),y.drop x.bA,x.gens⟩
theorem At.s9(x:At φ s σ c G)(h:∀b∈its,φ b=none∧σ b=none∧∃o,s.heap.get? b=some o∧¬Fm o):At φ s σ (c.add its) G:=by
 refine⟨x.rep,fun b hb=>?_,fun aa he=>?_,x.gens⟩
 ·rcases jM.mp hb with hb|hb
  ·obtain⟨h1,h2,o,ho,hc⟩:=h b hb;exact⟨h1,h2,o,ho,fun z=>absurd z hc⟩
  exact x.pv b hb
 obtain⟨h1,L,o,h2,h3,h4⟩:=x.bA aa he
 exact⟨h1,L,o,h2,jM.mpr (.inr h3),h4⟩
theorem cV.drop{qq:Loc}{h:Heap}(x:cV aa c qq cC h₀)(y:cV aa (c.add its) ρ φ h):cV aa c ρ φ h:=
 ⟨x.fn,x.gl,x.bi,x.loc,y.ns,x.sep,x.inj,fun v a e=>⟨(x.cl v a e).1,(y.cl v a e).2⟩⟩
theorem cV.s9{h:Heap}(x:cV aa c ρ φ h)(hd:∀b∈its,b∉c.pv):cV aa (c.add its) ρ φ h:=
 ⟨x.fn,x.gl,x.bi,x.loc,x.ns,fun b hb fV=>(eG fV).elim (fun fV=>hd b fV (Ctx.yV hb)) (x.sep b hb),x.inj,fun v a e=>⟨jM.mpr (.inr (x.cl v a e).1),(x.cl v a e).2⟩⟩
theorem cH.drop{P:List Addr}{e:Value}(x:cH G (c.add its) P s φ ep e s')(y:gP c.bA c.pv h₀):cH G c P s φ ep e s':=by
 obtain⟨a,C,t,B,aH,σ',h1,h2,h3,h4⟩:=x
 exact⟨a,C,t,B,aH,σ',h1,⟨h2.rep,h2.stays,fun b hb=>h2.pv b (jM.mpr (.inr hb)),h2.ext,h2.bT,y.drop h2.bA,h2.os,h2.gens⟩,h3,h4⟩
structure fE(G:Gd)(aB:Expr)(it:Addr)(its:List Addr)(aw:List LV)(src:St→Prop)(I:Nat→FZ→Heap→Prop):Prop where
 live:∀i φ h,I i φ h→∀b∈its,∃o,h.get? b=some o∧¬Fm o
 keep:∀i φ aH h h',I i φ h→Ext φ aH→(∀b o,φ b=some o→h'.get? b=some o)→(∀b∈its,∀o,h.get? b=some o→h'.get? b=some o)→I i aH h'
 item:∀(n:Nat) (c:Ctx) φ σ (s:aG) i v (Q:bN) (E:bN),dM n c→At φ s σ c G→(∀b∈its,b∉c.pv∧φ b=none∧σ b=none)→src σ→I i φ s.heap→aw[i]?=some v→
  (∀aH h' tk w,At aH {s with heap:=h',toks:=tk} σ c G→Ext φ aH→(∀b∈its,aH b=none)→(∀b o,b∉its→s.heap.get? b=some o→h'.get? b=some o)→I (i+1) aH h'→VR aH v w→Q w {s with heap:=h',toks:=tk})→
  wpAny G.M c.A s E (pyNext (.ref it)) (fun r s'=>∃w,r=some w∧wpAny G.M c.A s' E (letOwnedTupleGo aB (.ref it) w) (fun _ bQ=>Q w bQ))
 fin:∀(n:Nat) (c:Ctx) φ σ (s:aG) (Q:aG→Prop) (E:bN),dM n c→At φ s σ c G→(∀b∈its,b∉c.pv∧φ b=none∧σ b=none)→src σ→I aw.length φ s.heap→
  (∀aH h' tk,At aH {s with heap:=h',toks:=tk} σ c G→Ext φ aH→(∀b o,b∉its→s.heap.get? b=some o→h'.get? b=some o)→Q {s with heap:=h',toks:=tk})→
  wpAny G.M c.A s E (pyNext (.ref it)) (fun r s'=>r=none∧Q s')
 self:∀(A:Around) i φ (s:aG) (Q:bN) (E:bN),I i φ s.heap→Q (.ref it) s→wpAny G.M A s E (pyIter (.ref it)) Q
inductive Vh(X:Fx)(aB:Expr)(s:aG)(φ:FZ)(K:List LV→(St→Prop)→St→Prop)(Il:Value)(aO:aG):Prop where
 |mk (bp:FZ) (ae:St) (it:Addr) (its:List Addr) (I:Nat→FZ→Heap→Prop) (aw:List LV) (src:St→Prop) (e1:Il=.ref it) (S:aV X.G X.c X.c.pv s φ aO bp ae) (O:fE X.G aB it its aw src I) (h0:I 0 bp aO.heap)
  (hf:∀b∈its,b∉X.c.pv∧bp b=none∧ae b=none) (hs:src ae) (k:K aw src ae)
noncomputable def IE(X:Fx)(ρ:Loc)(σ:St)(bK aB:Expr)(K:List LV→(St→Prop)→St→Prop)(ep:EP):Prop:=
 dM X.n X.c→∀φ s,At φ s σ X.c X.G→cV X.aa X.c ρ φ s.heap→
  wpAny X.G.M X.c.A s (cH X.G X.c X.c.pv s φ ep) (eval bK X.aa) (fun va aj=>wpAny X.G.M X.c.A aj (cH X.G X.c X.c.pv s φ ep) (pyIter va) (Vh X aB s φ K))
theorem uo{aq:Program}{w:World}{A:Around}{s:aG}{aa:Env}{R:Result→aG→Prop}{aB:Expr}{it:Value}{aZ orelse:List Stmt}(I:Nat→aG→Prop)
 (turn:∀n s,I n s→wpAny (model aq w) A s (cE (model aq w) A aa fun e s'=>R (.error e) s') (pyNext it) (fun r aj=>match r with
   |none=>wpAny (model aq w) A aj (cE (model aq w) A aa fun e s'=>R (.error e) s') (execs orelse aa) (fun f bI=>R (.ok f) bI)
   |some v=>wpAny (model aq w) A aj (cE (model aq w) A aa fun e s'=>R (.error e) s') (letOwnedTupleGo aB it v) (fun _ s₀=>wpAny (model aq w) A s₀ (cE (model aq w) A aa fun e s'=>R (.error e) s') (assign aB aa v) (fun _ aO=>wpAny (model aq w) A aO (cE (model aq w) A aa fun e s'=>R (.error e) s') (execs aZ aa) (fun f bI=>match f with
     |.next|.cont=>∃m,m<n∧I m bI
     |.brk=>R (.ok .next) bI
     |.ret v=>R (.ok (.ret v)) bI)))))
 (n:Nat)(h:I n s):bw (model aq w) A (.forLoop aB it aZ orelse aa) R s:=by
 revert turn h
 revert aq w A s aa R aB it aZ orelse I n
 rintro aq w A s aa R aB it aZ orelse I n:(_)
 intro turn h
 refine qV rfl rfl I (?_) n h
 rintro n s:(_)
 intro hI
 show wpAny _ _ s _ ((forTurn aB it aZ orelse aa).onRaise (fun x=>do noteFrame x aa;theTreesLotGoes x)) _
 refine jI ?_
 unfold forTurn
 refine ak (dW (ak (fY (aL (turn n s hI) (fun r aj aN=>?_) fun _ _ h'=>dW h'))))
 cases r with
 |none=>exact ao (.inr ⟨rfl,ya aN⟩)
 |some v =>
  refine ak (aL aN (fun _ s₀ h₀=>?_) fun _ _ h'=>h');refine ak (aL h₀ (fun _ aO bE=>ak (aL bE (fun f bI gJ=>?_) fun _ _ h'=>h')) fun _ _ h'=>h');cases f with
  |next=>exact ao (.inl ⟨rfl,gJ⟩)
  |cont=>exact ao (.inl ⟨rfl,gJ⟩)
  |brk=>exact ao gJ
  |ret v=>exact ao gJ
section
variable {X:Fx}{ρ:Loc}{σ:St}{Q:LF→Loc→St→Prop}{ep:EP}
noncomputable def Im(src:St→Prop)(Inv:Nat→Loc→St→Prop)(i:Nat)(Q:LF→Loc→St→Prop):LF→Loc→St→Prop:=fun lf ρ σ=>match lf with
 |.next=>src σ∧Inv (i+1) ρ σ
 |.cont=>src σ∧Inv (i+1) ρ σ
 |.brk=>Q .next ρ σ
 |.ret v=>Q (.ret v) ρ σ
theorem LM:∀ {aB bK:Expr} {aZ:List Stmt} {ai:Pos} {outer:List Env} {L:Addr} (Su:X.c.bA=X.aa::outer) (zc:X.aa.frame=some L) (h:IE X ρ σ bK aB (fun aw src ah=>∃Inv:Nat→Loc→St→Prop,Inv 0 ρ ah∧
   (∀its i v aC ae,aw[i]?=some v→src ae→Inv i aC ae→AS ⟨false,ep.Q⟩ aC ae (X.add its) (assign aB X.aa) (fun cz bz=>ST ⟨false,ep.Q⟩ bz cz (X.add its) (Im src Inv i Q) (execs aZ X.aa)) v)∧
   ∀aC ae,src ae→Inv aw.length aC ae→Q .next aC ae) ep) (hs:autoParam (∀x,foldedSetIterable bK X.aa x=pure x) Jm.a3),ST ep σ ρ X Q (exec (.For aB bK aZ [] ai) X.aa):=by
 revert X ρ σ Q ep
 rintro X ρ σ Q ep aB bK aZ ai:(_)
 rintro outer L:(_)
 w_up
 intro hc
 rintro φ s:(_)
 intro hA hF
 refine Ed (aL (h hc φ s hA hF) (fun va aj aN=>aL aN (fun Il aO bE=>?_) fun _ _ e=>e.bP) fun _ _ e=>e.bP) hs
 obtain⟨bp,ah,it,its,I,aw,src,rfl,aP,IO,hI,hits,ze,Inv,LP,Cz,rT⟩:=bE
 let R:Result→aG→Prop:=fun r s'=>match r with|.ok f=>(ki X s φ Q) f s'|.error e=>fL X.G.M X.c.A X.aa (cH X.G X.c X.c.out s φ ep) e s'
 have uq:∀b∈its,b∉X.c.pv:=fun b hb=>(hits b hb).1
 have own:∀b∈its,b∈(X.c.add its).out:=fun b hb=>ik _ hb
 have oj:dM (X.add its).n (X.add its).c:=hc.add its
 have fQ:cV X.aa (X.c.add its) ρ bp aO.heap:=(hF.step aP.ext aP.bT).s9 uq
 have OZ:At bp aO ah (X.c.add its) X.G:=aP.at_.s9 fun b hb=>⟨(hits b hb).2.1,(hits b hb).2.2,IO.live _ _ _ hI b hb⟩
 let J:Nat→aG→Prop:=fun m s'=>∃i aH σ' bt,m=aw.length-i∧i≤aw.length∧At aH s' σ' (X.c.add its) X.G∧Ext φ aH∧eH X.c.out s.heap s'.heap∧s'.os=s.os∧cV X.aa (X.c.add its) bt aH s'.heap∧I i aH s'.heap∧src σ'∧Inv i bt σ'
 have LQ:∀ {s':aG} {aH:FZ} {e:Value} {bQ:aG},Ext φ aH→eH X.c.out s.heap s'.heap→s'.os=s.os→cH X.G (X.c.add its) (X.c.add its).out s' aH ⟨false,ep.Q⟩ e bQ→
   cE X.G.M X.c.A X.aa (fun e s'=>R (.error e) s') e bQ:=fun {s' aH e bQ} x1 x2 x3 he=>by
  have uW:cH X.G X.c X.c.out s φ ⟨false,ep.Q⟩ e bQ:=by
   obtain⟨a,C,t,B,eR,oY,h1,h2,h3,h4⟩:=he.drop hA.bA;exact⟨a,C,t,B,eR,oY,h1,⟨h2.rep,h2.stays,h2.pv,x1.trans h2.ext,x2.trans (h2.bT.mono fun b hb=>il _ hb),h2.bA,h2.os.trans x3,h2.gens⟩,h3,h4⟩
  have p:=Es (ep:=⟨false,ep.Q⟩) uk hc.frames Su zc rfl uW;show cE X.G.M X.c.A X.aa (fL X.G.M X.c.A X.aa (cH X.G X.c X.c.out s φ ep)) e bQ;unfold cE fL at p ⊢
  exact aL p (fun _ _ q=>aL q (fun _ _ z=>z.mono (fun _ h=>h) (fun z=>by cases z) fun _ _ z=>z) fun _ _ z=>z.mono (fun _ h=>h) (fun z=>by cases z) fun _ _ z=>z)
   fun _ _ z=>aL z (fun _ _ z=>z.mono (fun _ h=>h) (fun z=>by cases z) fun _ _ z=>z) fun _ _ z=>z.mono (fun _ h=>h) (fun z=>by cases z) fun _ _ z=>z
 refine uo J (fun m s' hq=>?_) aw.length ⟨0,bp,ah,ρ,by simp,lB _,OZ,aP.ext,aP.bP.bT,aP.os,fQ,hI,ze,LP⟩
 obtain⟨i,aH,σ',bt,hm,hle,xp,hx,rU,pG,QG,EC,eI,zf⟩:=hq
 have ur:∀b∈its,b∉X.c.pv∧aH b=none∧σ' b=none:=fun b hb=>⟨uq b hb,(xp.pv b (jM.mpr (.inl hb))).1,(xp.pv b (jM.mpr (.inl hb))).2.1⟩
 cases hv:aw[i]? with
 |none =>
  have hi:i=aw.length:=by have:=List.getElem?_eq_none_iff.mp hv;exists hle,this
  subst hi;refine aL (IO.fin X.n X.c aH σ' s' (fun bQ=>ki X s φ Q .next bQ) _ hc (xp.drop hA.bA) ur eI EC fun eR eN jC rV mG pH=>?_) (fun r bQ hq=>?_) fun _ _ z=>z
  ·have kp:eH X.c.out s'.heap eN:=fun b hb o e=>⟨o,pH b o (fun fV=>uq b fV (Ctx.rL hb)) e,.inl rfl⟩;have LR:eH X.c.pv s'.heap eN:=fun b hb o e=>⟨o,pH b o (fun fV=>uq b fV hb) e,.inl rfl⟩;refine⟨eR,σ',bt,.next,⟨rV,hx.trans mG,rU.trans kp,pG⟩,?_,rfl,rT bt σ' eI zf⟩;exact(hF.drop QG).step mG LR
  obtain⟨hr,hq⟩:=hq;subst hr;exact aD (wpAny_execs_nil hq)
 |some v =>
  have hi:i<aw.length:=by
   rcases Nat.lt_or_ge i aw.length with h|h
   ·exact h
   nomatch(List.getElem?_eq_none h),hv
  refine aL (IO.item X.n X.c aH σ' s' i v (fun w bQ=>wpAny X.G.M X.c.A bQ (cE X.G.M X.c.A X.aa fun e s'=>R (.error e) s') (assign aB X.aa w) (fun _ aO=>wpAny X.G.M X.c.A aO (cE X.G.M X.c.A X.aa fun e s'=>R (.error e) s') (execs aZ X.aa) (fun f bI=>match f with
     |.next|.cont=>∃m',m'<m∧J m' bI
     |.brk=>R (.ok .next) bI
     |.ret v=>R (.ok (.ret v)) bI))) _ hc (xp.drop hA.bA) ur eI EC hv fun eR eN jC w A₀ mG LS pH pb rw=>?_) (fun r bQ hq=>?_) fun _ _ z=>z
  rotate_left
  ·obtain⟨w,hr,hq⟩:=hq;subst hr;exact hq
  have kp:eH X.c.out s'.heap eN:=fun b hb o e=>⟨o,pH b o (fun fV=>uq b fV (Ctx.rL hb)) e,.inl rfl⟩;have LR:eH X.c.pv s'.heap eN:=fun b hb o e=>⟨o,pH b o (fun fV=>uq b fV hb) e,.inl rfl⟩;have rV:At eR {s' with heap:=eN,toks:=jC} σ' (X.c.add its) X.G:=A₀.s9 fun b hb=>⟨LS b hb,(ur b hb).2.2,IO.live _ _ _ pb b hb⟩;have Vi:cV X.aa (X.c.add its) bt eR eN:=((hF.drop QG).step mG LR).s9 uq;refine kJ.go (Cz its i v bt σ' hv eI zf oj eR {s' with heap:=eN,toks:=jC} w rV Vi rw) (fun _ aO fU bz qr cS wG hb=>?_) fun e aO he=>LQ (s':={s' with heap:=eN,toks:=jC}) (hx.trans mG) (rU.trans kp) pG he;have sub:∀b∈X.c.out,b∈(X.c.add its).out:=fun b hb=>il _ hb;have O0:eH X.c.out s.heap aO.heap:=(rU.trans kp).trans (cS.bT.mono sub);refine ki.go (hb oj fU aO cS.at_ wG) (fun f bI gw cg jo lf fZ rW rS CA=>?_) fun e bI he=>LQ ((hx.trans mG).trans cS.ext) O0 (cS.os.trans pG) he;have eS:aV X.G (X.c.add its) (X.c.add its).out {s' with heap:=eN,toks:=jC} eR bI gw cg:=cS.trans fZ;have fin:aV X.G X.c X.c.out s φ bI gw cg:=⟨eS.at_.drop hA.bA,(hx.trans mG).trans eS.ext,(rU.trans kp).trans (eS.bT.mono sub),eS.os.trans pG⟩
  have go:∀jo,cV X.aa (X.c.add its) jo gw bI.heap→src cg∧Inv (i+1) jo cg→∃m',m'<m∧J m' bI:=fun jo rW q=>by
   refine⟨aw.length-(i+1),by(have w0:=Ln.fS (aw.length) (i);have w1:=Ln.fS (aw.length) (i+1);revert hm hi w0 w1;room),i+1,gw,cg,jo,rfl,hi,eS.at_,fin.ext,fin.bT,fin.os,rW,?_,q.1,q.2⟩;refine IO.keep _ _ _ _ _ pb eS.ext (fun b o e=>(eS.at_.rep.fz b o (eS.ext b o e)).1) fun b hb o ho=>?_;obtain⟨yU,aN,c₁⟩:=IO.live _ _ _ pb b hb
   have:o=yU:=by
    have ho:eN.get? b=some o:=ho;rw[aN]at ho;cases ho;rfl
   subst this;obtain⟨o',eD,hp⟩:=eS.bT b (own b hb) o ho;rcases hp with rfl|hK
   ·exact eD
   obtain⟨hp,_⟩:=hK;exact absurd hp c₁
  cases lf with
  |next=>have e:f=.next:=rS;subst e;exact go jo rW CA
  |cont=>have e:f=.cont:=rS;subst e;exact go jo rW CA
  |brk=>have e:f=.brk:=rS;subst e;exact⟨gw,cg,jo,.next,fin,hF.drop rW,rfl,CA⟩
  |ret v=>obtain⟨w',rfl,rv⟩:=rS;exact⟨gw,cg,jo,.ret v,fin,hF.drop rW,⟨w',rfl,rv⟩,CA⟩
end
noncomputable def tc(e:Expr):Bool:=Nat.beq e.ctorIdx 25
noncomputable def fO(e:Expr):Bool:=Nat.beq e.ctorIdx 23||tc e
theorem ED(h:tc e=true):∃es k p,e=.Tuple es k p:=by
 cases e with
 |Tuple es k p=>exact⟨es,k,p,rfl⟩
 |_=>exact absurd h mw
theorem xq(h:fO e=true):(∃x p,e=.Name x p)∨∃es k p,e=.Tuple es k p:=by
 cases e with
 |Name x p=>exact .inl ⟨x,p,rfl⟩
 |Tuple es k p=>exact .inr ⟨es,k,p,rfl⟩
 |_=>exact absurd h mw
theorem u0{o:Obj}{d:Data}(e:o.data=d)(h:∀es n,d≠.dict es n):¬Fm o:=fun bR=>by obtain⟨es,n,z⟩:=bR;exact h es n (e.symm.trans z)
theorem A1{w:World}{l:Addr}{v:Value}{Q:Unit→aG→Prop}(ht:fO aB=true)(hit:s.heap.IsListIter it l i)(h:Q () s) :
  wpAny (model aq w) A s E (letOwnedTupleGo aB (.ref it) v) Q:=by
 rcases xq ht with hK|hK
 ·obtain⟨x,p,rfl⟩:=hK;exact ao h
 obtain⟨es,kt,p,rfl⟩:=hK
 cases v with
 |ref T=>exact aD (wpAny_letOwnedTupleGo_listiter hit h)
 |_=>exact ao h
theorem zg{w:World}{v:Value}{T:String}{vs:Array Value}{o:Obj}{Q:Unit→aG→Prop}(ht:fO aB=true)(ho:s.heap.get? it=some o)(hc:o.cls=.type T)(hd:o.data=.fields vs)
 (hT:["enumerate","zip","dict_itemiterator","dict_reverseitemiterator","odict_iterator","itertools.zip_longest","itertools.pairwise"].contains T=false)(h:Q () s) :
  wpAny (model aq w) A s E (letOwnedTupleGo aB (.ref it) v) Q:=by
 rcases xq ht with hK|hK
 ·obtain⟨x,p,rfl⟩:=hK;exact ao h
 obtain⟨es,kt,p,rfl⟩:=hK
 cases v with
 |ref a =>
  unfold letOwnedTupleGo;refine leaf (ku ho ?_);rw[hc,hd];show wpAny _ A s E (if(_&&vs[0]?==some (rawInt a))=true then _ else _) Q;rw[aY (by rw[hT,Bool.false_and];exact mw)];exact ao h
 |_=>exact ao h
theorem u5(h:At φ s σ c G)(e:σ a=some (t,.list vs)):∃xs,s.heap.IsList a xs∧bg φ vs xs.toList:=let⟨xs,h1,h2⟩:=h.rep.ob _ _ _ e;⟨xs,h1.isList,h2⟩
theorem OR.fR:∀ {G:Gd} {φ:FZ} {σ:St} {h h':Heap} {its:List Addr} {b:Addr} {o:LO} (k:∀b o,b∉its→h.get? b=some o→h'.get? b=some o) (hb:b∉its) (hd:∀dx,o.Ei=some dx→dx∉its) (x:OR G φ σ h b o),OR G φ σ h' b o:=by
 rintro G φ σ h h' its b:(_)
 rintro o:(_)
 w_up
 cases o with
 |inst C dx fs=>obtain⟨h1,h2,es,n,h3,h4⟩:=x;exact⟨k _ _ hb h1,h2,es,n,k _ _ (hd _ rfl) h3,h4⟩
 |exc C d m=>obtain⟨⟨t,h1⟩,h2⟩:=x;exact⟨⟨t,k _ _ hb h1⟩,fun dx e=>let⟨h3,es,n,h4,h5⟩:=h2 dx e;⟨h3,es,n,k _ _ (hd _ e) h4,h5⟩⟩
 |dK y=>obtain⟨o,h1⟩:=x;exact⟨o,k _ _ hb h1⟩
 |list vs=>obtain⟨xs,⟨n,ho⟩,h2⟩:=x;exact⟨xs,⟨n,k _ _ hb ho⟩,h2⟩
 |dict es ep=>obtain⟨bf,⟨o,e,ho,r⟩,h2⟩:=x;exact⟨bf,⟨o,e,k _ _ hb ho,r⟩,h2⟩
 |eC es=>obtain⟨bf,⟨o,e,n,ho,r⟩,h2⟩:=x;exact⟨bf,⟨o,e,n,k _ _ hb ho,r⟩,h2⟩
 |eM b'=>exact k _ _ hb x
 |table q=>obtain⟨vs,h1,h2⟩:=x;exact⟨vs,k _ _ hb h1,h2⟩
theorem At.fR(h:At φ s σ c G){n:Nat}(hf:∀b∈its,b∉c.pv∧φ b=none∧σ b=none)(k:∀b o,b∉its→s.heap.get? b=some o→h'.get? b=some o) :
  At φ {s with heap:=h',toks:=n} σ c G:=by
 refine⟨⟨h.rep.base,fun b o e=>⟨k b o (fun hb=>?_) (h.rep.fz b o e).1,(h.rep.fz b o e).2⟩,fun a t o e=>(h.rep.ob a t o e).fR k (fun hb=>?_) fun dx q=>?_⟩,fun b hb=>⟨(h.pv b hb).1,(h.pv b hb).2.1,?_⟩,?_,h.gens⟩
 ·nomatch((hf b hb).2.1),e
 ·nomatch((hf a hb).2.2),e
 ·obtain⟨u,h3⟩:=(h.rep.ob _ _ _ e).dx q;intro hb;nomatch((hf _ hb).2.2),h3
 ·obtain⟨o,ho,hd⟩:=(h.pv b hb).2.2;exact⟨o,k b o (fun z=>(hf b z).1 hb) ho,hd⟩
 exact h.bA.of fun b hb o e=>⟨o,k b o (fun z=>(hf b z).1 hb) e,.inl rfl⟩
theorem di{h:Heap}(k:Heap.ExtBut it h h'):∀b o,b∉[it]→h.get? b=some o→h'.get? b=some o:=fun b o hb e=>k b o (fun z=>hb (by simp[z])) e
theorem fE.list{P:FZ→Heap→Prop}(ht:fO aB=true)(bF:a≠it)
 (hs:∀c φ σ (s:aG),At φ s σ c G→src σ→P φ s.heap→∃xs,s.heap.IsList a xs∧bg φ aw xs.toList)
 (hP:∀φ aH h h',P φ h→Ext φ aH→(∀b o,φ b=some o→h'.get? b=some o)→P aH h'):fE G aB it [it] aw src (fun i φ h=>h.IsListIter it a i∧P φ h) where
 live:=fun i φ h bR b hb=>by
  obtain⟨⟨o,ho,hc,hd⟩,_⟩:=bR;rw[dE hb];exact⟨o,ho,u0 hd fun _ _ z=>by cases z⟩
 keep:=fun i φ aH h h' bR x kf k=>by obtain⟨⟨o,ho,r⟩,p⟩:=bR;exact⟨⟨o,k it (by simp) o ho,r⟩,hP _ _ _ _ p x kf⟩
 item:=fun n c φ σ s i v Q E hc hA hf eI bR hv hQ=>by
  obtain⟨hI,p⟩:=bR;obtain⟨xs,hl,hr⟩:=hs c φ σ s hA eI p;obtain⟨w,hw,rw⟩:=hr.get hv;refine aD (wpAny_pyNext_list_item hI hl (by simpa using hw) fun h' ow dF=>⟨w,rfl,A1 ht (s:={s with heap:=h'}) ow ?_⟩);have A':=hA.fR (n:=s.toks) hf (di dF.extBut);exact hQ φ h' s.toks w A' (.refl _) (fun b hb=>(hf b hb).2.1) (di dF.extBut) ⟨ow,hP _ _ _ _ p (.refl _) fun b o e=>(A'.rep.fz b o e).1⟩ rw
 fin:=fun n c φ σ s Q E hc hA hf eI bR hQ=>by
  obtain⟨hI,p⟩:=bR;obtain⟨xs,hl,hr⟩:=hs c φ σ s hA eI p;refine aD (wpAny_pyNext_list_end hc.handled hI hl (by have:=hr.length;simp at this;simp[this]) fun h' k=>⟨rfl,?_⟩);exact hQ φ h' s.toks (hA.fR hf (di k)) (.refl _) (di k)
 self:=fun A i φ s Q E bR h=>by obtain⟨hI,_⟩:=bR;exact aD (wpAny_pyIter_listiter hI h)
section
variable {X:Fx}{ρ:Loc}{σ:St}{K:List LV→(St→Prop)→St→Prop}{ep:EP}
theorem Kc(ht:fO aB=true)(h:ET ep X ρ σ bK (fun v ah=>∃a t aw,v=.ref a∧ah a=some (t,.list aw)∧K aw (fun σ=>∃t,σ a=some (t,.list aw)) ah)):IE X ρ σ bK aB K ep:=fun hc φ s hA hF=>by
 refine bG.gg (h hc φ s hA hF) (fun va aj aX ah lv ax bD iX=>?_)
 obtain⟨a,t,aw,hl,e,hK⟩:=iX
 subst hl
 have bD:va=.ref a:=bD
 subst bD
 obtain⟨xs,hl,hr⟩:=u5 ax.at_ e
 refine aD (wpAny_pyIter_list hl ?_)
 have k:=cF aj.heap {cls:=.type "list_iterator",data:=.fields #[.ref a,.int 0 0]}
 have fr:=ax.at_.fresh (bC aj.heap)
 have bF:a≠aj.heap.objs.size:=by first|exact Lake.cR fr.2.1 e|exact Lake.cD fr.2.1 e|exact Lake.iI fr.2.1 e rfl|exact Lake.fG fr.2.1 e rfl|exact(fun z=>by rw[z,fr.2.1]at e;cases e)
 refine⟨aX,ah,_,_,_,aw,_,rfl,ax.trans (aV.keeps (n:=aj.toks) ax.at_ k),fE.list (P:=fun _ _=>True) (src:=fun σ=>∃t,σ a=some (t,.list aw)) ht bF (fun c φ σ s hA bR _=>by obtain⟨t,e⟩:=bR;exact u5 hA e) (fun _ _ _ _ _ _ _=>trivial),⟨⟨_,eO _ rfl,rfl,rfl⟩,trivial⟩,?_,⟨t,e⟩,hK⟩
 intro b hb
 rw[dE hb]
 exact⟨fr.2.2,fr.1,fr.2.1⟩
theorem ET.mono{ρ:Loc}{σ:St}{ep:EP}(h:ET ep X ρ σ e Q)(k:∀v σ,Q v σ→Q' v σ):ET ep X ρ σ e Q':=fun hc φ s hA hF=>TB.mono (h hc φ s hA hF) k (fun h=>h) fun _ _ h=>h
theorem EA.mono{ρ:Loc}{ep:EP}:∀ {es:List Expr} {σ:St} {Q Q':List LV→St→Prop},EA X ρ es σ Q ep→(∀v σ,Q v σ→Q' v σ)→EA X ρ es σ Q' ep:=by
 intro ll
 induction ll with
 |nil =>
  rintro _ _ _ h k;exact k _ _ h
 |cons _ _ ih =>
  rintro _ _ _ h k;exact ET.mono h fun _ _ h=>ih h fun _ _ h=>k _ _ h
noncomputable def lV(X:Fx)(f:Value)(az:List LV)(σ:St)(P:FZ→St→Value→aG→Prop)(ep:EP):Prop:=
 dM X.n X.c→∀φ s vs,At φ s σ X.c X.G→bg φ az vs→wpAny X.G.M X.c.A s (cH X.G X.c X.c.pv s φ ep) (call f vs) (fun v s'=>∃aH σ',aV X.G X.c X.c.pv s φ s' aH σ'∧P aH σ' v s')
theorem lV.mono{σ:St}{P P':FZ→St→Value→aG→Prop}{ep:EP}(h:lV X f az σ P ep)(k:∀φ σ v s,P φ σ v s→P' φ σ v s):lV X f az σ P' ep:=fun hc φ s vs hA hv =>
 aL (h hc φ s vs hA hv) (fun _ _ bR=>by obtain⟨aH,σ',S,p⟩:=bR;exact⟨aH,σ',S,k _ _ _ _ p⟩) fun _ _ e=>e
theorem uu{P:FZ→St→Value→aG→Prop}{az:List Expr}{ai:Pos}(hp:dg (e::az)=true)
 (h:ET ep X ρ σ func (fun f ah=>∃fv,(∀φ v,VR φ f v→v=fv)∧jS X.G fv∧EA X ρ (e::az) ah (fun vs ae=>lV X fv vs ae P ep) ep))
 (he:autoParam (eval (.Call func (e::az) [] ai) X.aa=(do callWith ai (← eval func X.aa) [] (backTo ai (starEach (e::az) X.aa)) (backToKw ai (keywordEach [] X.aa)))) Jm.a0)
 (hc:dM X.n X.c)(hA:At φ s σ X.c X.G)(hF:cV X.aa X.c ρ φ s.heap) :
  wpAny X.G.M X.c.A s (cH X.G X.c X.c.pv s φ ep) (eval (.Call func (e::az) [] ai) X.aa) (fun v s'=>∃aH σ',aV X.G X.c X.c.pv s φ s' aH σ'∧P aH σ' v s'):=by
 refine yq (bG.gg (h hc φ s hA hF) (fun va aj aX ah a ax ra iX=>?_)) he
 obtain⟨fv,LA,hk,aN⟩:=iX
 rw[LA _ _ ra]
 have jZ:=hF.step ax.ext ax.bT
 have e1:backTo ai (starEach (e::az) X.aa)=((e::az).map fun e=>eval e X.aa).map fun t=>(false,t):=by rw[jm hp,show((e::az).map fun e=>(false,eval e X.aa))=((e::az).map fun e=>eval e X.aa).map fun t=>(false,t)by rw[ey];rfl,kI]
 rw[e1]
 refine lT (P:=fun hp=>X.G.K.In hp) (by simp) (fun hp hX=>hk hp hX) ?_
 refine lD (bG.iW ax (uT aN hc ax.at_ jZ) (fun vs aO bp ae as aP rs bE=>⟨aP.at_.rep.K,?_⟩))
 refine aL (bE hc bp aO vs aP.at_ rs) (fun v bI bR=>by obtain⟨fU,bz,cS,p⟩:=bR;exact⟨fU,bz,(ax.trans aP).trans cS,p⟩) fun _ _ e=>e.up (ax.trans aP)
noncomputable def yt(a b c:Int):FZ→St→Value→aG→Prop:=fun _ _ v s=>∃r t u w,v=.ref r∧IsRange s.heap r a b c t u w
noncomputable def bL(a c:Int)(n:Nat):List LV:=(List.range n).map fun(i:Nat)=>.int (a+(i:Int)*c)
theorem iD{a c:Int}{n:Nat}:(bL a c n).length=n:=by unfold bL;rw[bB,List.length_range]
theorem zh{n:Int}:lV X (.type "range") [.int n] σ (fun φ ah v s=>yt 0 n 1 φ ah v s∧ah=σ) ep:=by
 revert X σ ep n
 rintro X σ ep:(_)
 rintro n:(_)
 intro _
 rintro φ s vs:(_)
 intro hA hv
 obtain⟨w,r,rfl,h1,h2⟩:=hv.cons_inv
 have:=bg.bO.mp h2;subst this
 obtain⟨t,rfl⟩:=h1
 refine aD (call_range_1 ?_)
 exact⟨φ,σ,aV.keeps hA (cF _ _),⟨_,_,_,_,rfl,eO _ rfl⟩,rfl⟩
theorem zi{m n:Int}:lV X (.type "range") [.int m,.int n] σ (fun φ ah v s=>yt m n 1 φ ah v s∧ah=σ) ep:=by
 revert X σ ep m n
 rintro X σ ep m n:(_)
 intro _
 rintro φ s vs:(_)
 intro hA hv
 obtain⟨w,r,rfl,⟨t,rfl⟩,h2⟩:=hv.cons_inv
 obtain⟨w,r,rfl,⟨u,rfl⟩,h3⟩:=h2.cons_inv
 have:=bg.bO.mp h3;subst this
 refine aD (call_range_2 ?_)
 exact⟨φ,σ,aV.keeps hA (cF _ _),⟨_,_,_,_,rfl,eO _ rfl⟩,rfl⟩
theorem zj:∀ {m n k:Int} (hk:k≠0) (hp:Builtin.divisionGoesByPylong (n-m) k=false),lV X (.type "range") [.int m,.int n,.int k] σ (fun φ ah v s=>yt m n k φ ah v s∧ah=σ) ep:=by
 revert X σ ep
 rintro X σ ep m n:(_)
 rintro k:(_)
 w_up
 intro _
 rintro φ s vs:(_)
 intro hA hv
 obtain⟨w,r,rfl,⟨t,rfl⟩,h2⟩:=hv.cons_inv
 obtain⟨w,r,rfl,⟨u,rfl⟩,h3⟩:=h2.cons_inv
 obtain⟨w,r,rfl,⟨u',rfl⟩,h4⟩:=h3.cons_inv
 have:=bg.bO.mp h4;subst this
 refine aD (call_range_3 hk ?_ (.inl hp))
 exact⟨φ,σ,aV.keeps hA (cF _ _),⟨_,_,_,_,rfl,eO _ rfl⟩,rfl⟩
theorem fE.range{a c:Int}{n:Nat}(ht:fO aB=true):fE G aB it [it] (bL a c n) (fun _=>True) (fun i _ h=>IsRangeIter h it (a+i*c) ((n:Int)-i) c) where
 live:=fun i φ h ho b hb=>by
  rw[dE hb];exact⟨_,ho,u0 rfl fun _ _ z=>by cases z⟩
 keep:=fun i φ aH h h' ho x kf k=>k it (by simp) _ ho
 item:=fun m c' φ σ s i v Q E hc hA hf eI hI hv hQ=>by
  have hi:i<n:=by
   have:i<(bL a c n).length:=by
    rcases Nat.lt_or_ge i (bL a c n).length with h|h
    ·exact h
    nomatch(List.getElem?_eq_none h),hv
   simpa[bL]using this
  have Ef:v=.int (a+i*c):=by
   simp only[bL,List.getElem?_map,List.getElem?_range hi,Option.map_some]at hv;cases hv;rfl
  subst Ef;refine aD (wpAny_pyNext_range_item hI %[|hi] fun h' ow dF=>⟨_,rfl,zg (s:={s with heap:=h',toks:=s.toks+1}) ht ow rfl rfl %[|0] ?_⟩);refine hQ φ h' (s.toks+1) _ (hA.fR hf (di dF.extBut)) (.refl _) (fun b hb=>(hf b hb).2.1) (di dF.extBut) ?_ ⟨_,rfl⟩;have e1:a+((i+1:Nat):Int)*c=a+(i:Int)*c+c:=by push_cast;rw[Int.add_mul,Int.one_mul,Int.add_assoc]
  have e2:(n:Int)-((i+1:Nat):Int)=(n:Int)-(i:Int)-1:=by push_cast;room
  rw[e1,e2];exact ow
 fin:=fun m c' φ σ s Q E hc hA hf eI hI hQ=>by
  refine aD (wpAny_pyNext_range_end hc.handled hI (by simp[bL]) fun h' k=>⟨rfl,?_⟩);exact hQ φ h' s.toks (hA.fR hf (di k)) (.refl _) (di k)
 self:=fun A i φ s Q E hI h=>aD (wpAny_pyIter_rangeiter hI h)
theorem zl:∀ {e:Expr} {es:List Expr} {aB:Expr} {pr ai:Pos} (ht:fO aB=true) (hp:dg (e::es)=true) (hk:X.aa.kindOf (Str.ofString "range")=some .globalImplicit) (hg:X.G.mg (Str.ofString "range")=none) (h:EA X ρ (e::es) σ (fun vs ah=>∃a b c n,(vs=[.int b]∧a=0∧c=1∨vs=[.int a,.int b]∧c=1∨vs=[.int a,.int b,.int c]∧c≠0∧Builtin.divisionGoesByPylong (b-a) c=false)∧Builtin.Range.small a b c=true∧Builtin.Range.rangeSize a b c=(n:Nat)∧K (bL a c n) (fun _=>True) ah) ep) (he:autoParam (eval (.Call (.Name (Str.ofString "range") pr) (e::es) [] ai) X.aa=(do callWith ai (← eval (.Name (Str.ofString "range") pr) X.aa) [] (backTo ai (starEach (e::es) X.aa)) (backToKw ai (keywordEach [] X.aa)))) Jm.a0),IE X ρ σ (.Call (.Name (Str.ofString "range") pr) (e::es) [] ai) aB K ep:=by
 revert X ρ σ K ep
 rintro X ρ σ K ep e es aB pr:(_)
 rintro ai:(_)
 w_up
 intro hc
 rintro φ s:(_)
 intro hA hF
 have run:=uu (X:=X) (ρ:=ρ) (σ:=σ) (ep:=ep) (P:=fun aH σ' v s'=>∃a b c n,yt a b c aH σ' v s'∧Builtin.Range.small a b c=true∧Builtin.Range.rangeSize a b c=(n:Nat)∧K (bL a c n) (fun _=>True) σ') hp
  (ji hk hg (v:=.type "range") (by k_in) %[|0] ⟨.type "range",fun φ v e=>e,oh,?_⟩) he hc hA hF
 ·refine aL run (?_) fun _ _ e=>e;rintro va aj:(_);intro hq;refine Lake.ex2 (hq) ?_
  (first|clear hq|skip)
  rintro aX ah:(_);rintro⟨ax,a,b,c,n,⟨r,t,u,w,hv,hr⟩,hs,hn,hK⟩:_;subst hv;refine aD (wpAny_pyIter_range hr hs ?_);have k:=cF aj.heap {cls:=.type "range_iterator",data:=.fields #[rawInt a,rawInt (Builtin.Range.rangeSize a b c),rawInt c]};have fr:=ax.at_.fresh (bC aj.heap);refine⟨aX,ah,_,_,_,_,_,rfl,ax.trans (aV.keeps (n:=aj.toks) ax.at_ k),fE.range (a:=a) (c:=c) (n:=n) ht,?_,?_,trivial,hK⟩
  ·have:=eO aj.heap (o:={cls:=.type "range_iterator",data:=.fields #[rawInt a,rawInt (Builtin.Range.rangeSize a b c),rawInt c]}) rfl;simpa[hn]using this
  intro b hb;rw[dE hb];exact⟨fr.2.2,fr.1,fr.2.1⟩
 refine EA.mono h fun vs ah hq=>?_
 obtain⟨a,b,c,n,qX,hs,hn,hK⟩:=hq
 rcases qX with hK|hK|hK
 ·obtain⟨rfl,rfl,rfl⟩:=hK;exact lV.mono zh fun φ σ' v s bR=>by obtain⟨hr,e⟩:=bR;exact⟨_,_,_,n,hr,hs,hn,by subst e;exact hK⟩
 ·obtain⟨rfl,rfl⟩:=hK;exact lV.mono zi fun φ σ' v s bR=>by obtain⟨hr,e⟩:=bR;exact⟨_,_,_,n,hr,hs,hn,by subst e;exact hK⟩
 obtain⟨rfl,h0,hd⟩:=hK
 exact lV.mono (zj h0 hd) fun φ σ' v s bR=>by obtain⟨hr,e⟩:=bR;exact⟨_,_,_,n,hr,hs,hn,by subst e;exact hK⟩
noncomputable def lJ(φ:FZ)(h:Heap)(a:Addr)(aw:List LV):Prop:=∃xs n,φ a=some {cls:=.type "list",data:=.seq xs n}∧h.get? a=some {cls:=.type "list",data:=.seq xs n}∧bg φ aw xs.toList
theorem lJ.plain{h:Heap}(x:lJ φ h a aw):∃xs,h.PlainList a xs∧bg φ aw xs.toList:=let⟨xs,n,_,h2,h5⟩:=x;⟨xs,⟨n,h2⟩,h5⟩
theorem lJ.list{h:Heap}(x:lJ φ h a aw):∃xs,h.IsList a xs∧bg φ aw xs.toList:=let⟨xs,h2,h5⟩:=x.plain;⟨xs,h2.isList,h5⟩
theorem lJ.keep{h:Heap}(p:lJ φ h a aw)(x:Ext φ aH)(kf:∀b o,φ b=some o→h'.get? b=some o):lJ aH h' a aw:=let⟨xs,n,h1,h2,h5⟩:=p;⟨xs,n,x _ _ h1,kf _ _ h1,h5.mono x⟩
theorem G2{σ:St}(h:At φ s σ c G){va:Value}(r:VR φ (.fl aw) va):∃a,va=.ref a∧lJ φ s.heap a aw:=by
 simp only[lh,ky,kz,kA,kE,kF,kG,ke,kg,ix,iy,iA]at r
 obtain⟨a,xs,n,h1,h2,h5⟩:=r
 exact⟨a,h1,xs,n,h2,(h.rep.fz _ _ h2).1,h5⟩
theorem lJ.fz{h:Heap}(x:lJ φ h a aw):φ a≠none:=fun z=>by obtain⟨xs,n,e,_⟩:=x;nomatch z,e
theorem O4(ht:fO aB=true)(h:ET ep X ρ σ bK (fun v ah=>∃aw,v=.fl aw∧K aw (fun _=>True) ah)):IE X ρ σ bK aB K ep:=fun hc φ s hA hF=>by
 refine bG.gg (h hc φ s hA hF) (fun va aj aX ah lv ax bD iX=>?_)
 obtain⟨aw,hl,hK⟩:=iX
 subst hl
 obtain⟨a,rfl,F⟩:=G2 ax.at_ bD
 obtain⟨xs,hl,hr⟩:=F.list
 refine aD (wpAny_pyIter_list hl ?_)
 have k:=cF aj.heap {cls:=.type "list_iterator",data:=.fields #[.ref a,.int 0 0]}
 have fr:=ax.at_.fresh (bC aj.heap)
 have bF:a≠aj.heap.objs.size:=fun z=>F.fz (z▸fr.1)
 have aP:=aV.keeps (P:=X.c.pv) (n:=aj.toks) ax.at_ k
 refine⟨aX,ah,_,_,_,aw,_,rfl,ax.trans aP,fE.list (P:=fun φ h=>lJ φ h a aw) (src:=fun _=>True) ht bF (fun c φ σ s hA _ p=>p.list) (fun _ _ _ _ p x kf=>p.keep x kf),⟨⟨_,eO _ rfl,rfl,rfl⟩,F.keep (.refl _) fun b o e=>(aP.at_.rep.fz b o e).1⟩,?_,trivial,hK⟩
 intro b hb
 rw[dE hb]
 exact⟨fr.2.2,fr.1,fr.2.1⟩
theorem d9.get{Ky:Type}:∀ {es:List (Ky×LV)} {bf:List (Ky×Value)} {i:Nat} {k:Ky} {v:LV},d9 φ es bf→es[i]?=some (k,v)→∃w,bf[i]?=some (k,w)∧VR φ v w:=by
 intro es
 induction es with
 |nil=>intro _ i k v _ he;cases i<;>cases he
 |cons f fs ih =>
  intro _ i k v h he;obtain⟨w,r,e,h1,h2⟩:=h;subst e;cases i with
  |zero=>cases he;exact⟨w,rfl,h1⟩
  |succ i=>exact ih (i:=i) h2 he
theorem d9.length{Ky:Type}:∀ {es:List (Ky×LV)} {bf:List (Ky×Value)},d9 φ es bf→bf.length=es.length:=by
 intro ll
 induction ll with
 |nil =>
  rintro _ e;have e:_=_:=e;subst e;rfl
 |cons f fs ih =>
  rintro _ ⟨w,r,e,h1,h2⟩:_;subst e;simp[ih h2]
noncomputable def dT(es:List (Int×LV)):List LV:=es.map fun e=>.int e.1
theorem fE.dict(ht:fO aB=true)(bF:a≠it) :
  fE G aB it [it] (dT es) (fun σ=>∃t,σ a=some (t,.dict es dp)) (fun i _ h=>h.IsKeyIter it a i es.length dp) where
 live:=fun i φ h bR b hb=>by
  obtain⟨o,ho,hc,hd⟩:=bR;rw[dE hb];exact⟨o,ho,u0 hd fun _ _ z=>by cases z⟩
 keep:=fun i φ aH h h' bR x kf k=>by obtain⟨o,ho,r⟩:=bR;exact⟨o,k it (by simp) o ho,r⟩
 item:=fun n c φ σ s i v Q E hc hA hf bR hI hv hQ=>by
  obtain⟨t,e⟩:=bR;obtain⟨bf,hd,hr⟩:=hA.rep.ob _ _ _ e;simp only[dT,List.getElem?_map]at hv;cases he:es[i]? with
  |none=>nomatch he,hv
  |some p =>
   nomatch he,hv;obtain⟨w,hw,ml⟩:=hr.get (k:=p.1) (v:=p.2) he;have ow:s.heap.IsKeyIter it a i bf.length dp:=by rw[hr.length];exact hI
   refine aD (wpAny_pyNext_dict_item ow hd hw fun key h' hk pb dF=>⟨key,rfl,?_⟩);obtain⟨o,ho,oj,dJ⟩:=id pb;refine zg (s:={s with heap:=h'}) ht ho oj dJ %[|0] ?_;exact hQ φ h' s.toks key (hA.fR hf (di dF.extBut)) (.refl _) (fun b hb=>(hf b hb).2.1) (di dF.extBut) (by rw[← hr.length];exact pb) (Value.isInt_shape hk)
 fin:=fun n c φ σ s Q E hc hA hf bR hI hQ=>by
  obtain⟨t,e⟩:=bR;obtain⟨bf,hd,hr⟩:=hA.rep.ob _ _ _ e;have ow:s.heap.IsKeyIter it a bf.length bf.length dp:=by rw[hr.length];simpa[dT]using hI
  refine aD (wpAny_pyNext_dict_end hc.handled ow hd (by simp) fun h' k=>⟨rfl,?_⟩);exact hQ φ h' s.toks (hA.fR hf (di k)) (.refl _) (di k)
 self:=fun A i φ s Q E hI h=>aD (wpAny_pyIter_keyiter hI h)
theorem Kd(ht:fO aB=true)(h:ET ep X ρ σ bK (fun v ah=>∃a t es dp,v=.ref a∧ah a=some (t,.dict es dp)∧K (dT es) (fun σ=>∃t,σ a=some (t,.dict es dp)) ah)):IE X ρ σ bK aB K ep:=fun hc φ s hA hF=>by
 refine bG.gg (h hc φ s hA hF) (fun va aj aX ah lv ax bD iX=>?_)
 obtain⟨a,t,es,dp,hl,e,hK⟩:=iX
 subst hl
 have bD:va=.ref a:=bD
 subst bD
 obtain⟨bf,hd,hr⟩:=ax.at_.rep.ob _ _ _ e
 refine aD (wpAny_pyIter_dict (ax.at_.rep.gC e) hd ?_)
 have k:=cF aj.heap {cls:=.type "dict_keyiterator",data:=.fields #[.ref a,.int 0 0,.int bf.length 0,.int dp 0]}
 have fr:=ax.at_.fresh (bC aj.heap)
 have bF:a≠aj.heap.objs.size:=by first|exact Lake.cR fr.2.1 e|exact Lake.cD fr.2.1 e|exact Lake.iI fr.2.1 e rfl|exact Lake.fG fr.2.1 e rfl|exact(fun z=>by rw[z,fr.2.1]at e;cases e)
 refine⟨aX,ah,_,_,_,_,_,rfl,ax.trans (aV.keeps (n:=aj.toks) ax.at_ k),fE.dict ht bF,⟨_,eO _ rfl,rfl,by rw[hr.length];rfl⟩,?_,⟨t,e⟩,hK⟩
 intro b hb
 rw[dE hb]
 exact⟨fr.2.2,fr.1,fr.2.1⟩
noncomputable def cI(aw:List LV):List LV:=aw.zipIdx.map fun p=>.tup [.int p.2,p.1]
theorem yb:∀ {aw:List LV} {i:Nat} {v:LV} (h:(cI aw)[i]?=some v),∃u,aw[i]?=some u∧v=.tup [.int i,u]:=by
 rintro aw i v:(_)
 w_up
 simp only[cI,List.getElem?_map,List.getElem?_zipIdx]at h
 cases he:aw[i]? with
 |none=>nomatch he,h
 |some u=>rw[he]at h;simp at h;exact⟨u,rfl,h.symm⟩
theorem gK(aw:List LV):(cI aw).length=aw.length:=by simp[cI]
theorem fE.enum{e:Addr}{P:FZ→Heap→Prop}(ht:tc aB=true)(hae:a≠e)(hai:a≠it)(QH:e≠it)
 (hs:∀c φ σ (s:aG),At φ s σ c G→src σ→P φ s.heap→∃xs,s.heap.IsList a xs∧bg φ aw xs.toList)
 (hP:∀φ aH h h',P φ h→Ext φ aH→(∀b o,φ b=some o→h'.get? b=some o)→P aH h') :
  fE G aB e [e,it] (cI aw) src (fun i φ h=>(∃old,IsEnum h e it i old)∧h.IsListIter it a i∧P φ h) where
 live:=fun i φ h bR b hb=>by
  obtain⟨⟨old,he⟩,⟨o,ho,hc,hd⟩,_⟩:=bR;have:b=e∨b=it:=by simpa using hb
  rcases this with rfl|rfl
  ·exact⟨_,he,u0 rfl fun _ _ z=>by cases z⟩
  exact⟨o,ho,u0 hd fun _ _ z=>by cases z⟩
 keep:=fun i φ aH h h' bR x kf k=>by obtain⟨⟨old,he⟩,⟨o,ho,r⟩,p⟩:=bR;exact⟨⟨old,k e (by simp) _ he⟩,⟨o,k it (by simp) o ho,r⟩,hP _ _ _ _ p x kf⟩
 item:=fun n c φ σ s i v Q E hc hA hf eI bR hv hQ=>by
  obtain⟨⟨old,he⟩,hI,p⟩:=bR;obtain⟨u,hu,rfl⟩:=yb hv;obtain⟨xs,hl,hr⟩:=hs c φ σ s hA eI p;obtain⟨w,hw,rw⟩:=hr.get hu;refine aD (wpAny_pyNext_enum_item he hI hl (by simpa using hw) QH fun h' uW ow hT hz k=>⟨_,rfl,?_⟩);obtain⟨tes,tk,tp,rfl⟩:=ED ht;refine aD (wpAny_letOwnedTupleGo_enum (s:={s with heap:=h',toks:=s.toks+1}) uW fun bE CB qs=>?_);replace qs:Heap.SameBut e h' bE:=qs;have fr:=hA.fresh (bC s.heap)
  have k₁:∀b o,b∉[e,it]→s.heap.get? b=some o→bE.get? b=some o:=fun b o hb q=>by
   have h1:b≠e:=fun z=>hb (by simp[z]);have h2:b≠it:=fun z=>hb (by simp[z]);exact(qs.2 b h1).trans (k b o h1 h2 q)
  have f6:=hA.fR (n:=s.toks+1) hf k₁;have nT:s.heap.objs.size≠e:=Nat.ne_of_gt (kq he);have O5:bE.get? s.heap.objs.size=some {cls:=.type "tuple",data:=.seq #[.int i s.toks,w]}:=(qs.2 _ nT).trans hT
  have um:At (iQ φ s.heap.objs.size {cls:=.type "tuple",data:=.seq #[.int i s.toks,w]}) {s with heap:=bE,toks:=s.toks+1} σ c G:=
   ⟨f6.rep.freeze O5 fr.1 fr.2.1,fun b hb=>⟨by unfold iQ;rw[aY (fun z:b=s.heap.objs.size=>fr.2.2 (z▸hb))];exact(f6.pv b hb).1,(f6.pv b hb).2⟩,f6.bA,f6.gens⟩
  have x:=i6 φ {cls:=.type "tuple",data:=.seq #[.int i s.toks,w]} fr.1;have O6:it<s.heap.objs.size:=by obtain⟨o,ho,_⟩:=hI;exact kq ho
  refine hQ _ bE (s.toks+1) _ um x (fun b hb=>?_) k₁ ⟨⟨_,by simpa using CB⟩,?_,hP _ _ _ _ p x fun b o q=>(f6.rep.fz b o q).1⟩ ?_
  ·unfold iQ
   have:b≠s.heap.objs.size:=by
    have:b=e∨b=it:=by simpa using hb
    rcases this with rfl|rfl
    ·exact Ne.symm nT
    exact m9 O6
   rw[aY this];exact(hf b hb).2.1
  ·obtain⟨o,ho,r⟩:=ow;exact⟨o,(qs.2 it (Ne.symm QH)).trans ho,r⟩
  simp only[lh,ky,kz,kA,kE,kF,kG,ke,kg,ix,iy,iA];refine⟨_,_,_,_,rfl,gZ ..,rfl,rfl,?_⟩;refine bg.cZ.mpr ⟨⟨_,rfl⟩,bg.cZ.mpr ⟨rw.mono x,rfl⟩⟩
 fin:=fun n c φ σ s Q E hc hA hf eI bR hQ=>by
  obtain⟨⟨old,he⟩,hI,p⟩:=bR;obtain⟨xs,hl,hr⟩:=hs c φ σ s hA eI p;have hx:xs[(cI aw).length]?=none:=by have:=hr.length;simp at this;simp[gK,this]
  refine aD (wpAny_pyNext_enum_end hc.handled he hI hl hx fun h' k=>⟨rfl,?_⟩);have k':∀b o,b∉[e,it]→s.heap.get? b=some o→h'.get? b=some o:=fun b o hb q=>k b o (fun z=>hb (by simp[z])) q;exact hQ φ h' s.toks (hA.fR hf k') (.refl _) k'
 self:=fun A i φ s Q E bR h=>by obtain⟨⟨old,he⟩,_⟩:=bR;exact aD (wpAny_pyIter_enum he h)
noncomputable def LU(X:Fx)(a:Addr):FZ→St→Value→aG→Prop:=fun φ σ v s=>∃e it,v=.ref e∧IsEnum s.heap e it 0 .none∧s.heap.IsListIter it a 0∧a≠e∧a≠it∧e≠it∧∀b∈[e,it],b∉X.c.pv∧φ b=none∧σ b=none
theorem pI{xs:Array Value}(hA:At φ s σ X.c X.G)(hl:s.heap.IsList a xs) :
  wpAny X.G.M X.c.A s (cH X.G X.c X.c.pv s φ ep) (call (.type "enumerate") [.ref a]) (fun v s'=>∃aH σ',aV X.G X.c X.c.pv s φ s' aH σ'∧LU X a aH σ' v s'∧σ'=σ∧aH=φ):=by
 refine aD (call_enumerate_list hl fun h' he hi hz k=>?_)
 have lt:a<s.heap.objs.size:=by obtain⟨o,ho,_⟩:=hl;exact kq ho
 refine⟨φ,σ,aV.keeps (n:=s.toks) hA k,⟨_,_,rfl,he,hi,?_,?_,?_,?_⟩,rfl,rfl⟩
 ·exact m9 (Nat.lt_succ_of_lt lt)
 ·exact m9 lt
 ·exact Nat.succ_ne_self _
 intro b hb
 have:b=s.heap.objs.size+1∨b=s.heap.objs.size:=by simpa using hb
 have n:s.heap.get? b=none:=jz (by rcases this with rfl|rfl<;>room)
 have:=hA.fresh n
 exact⟨this.2.2,this.1,this.2.1⟩
theorem Ke:∀ {e aB:Expr} {pr ai:Pos} (ht:tc aB=true) (hp:dg [e]=true) (hk:X.aa.kindOf (Str.ofString "enumerate")=some .globalImplicit) (hg:X.G.mg (Str.ofString "enumerate")=none) (h:ET ep X ρ σ e (fun v ah=>(∃a t aw,v=.ref a∧ah a=some (t,.list aw)∧K (cI aw) (fun σ=>∃t,σ a=some (t,.list aw)) ah)∨∃aw,v=.fl aw∧K (cI aw) (fun _=>True) ah)) (he:autoParam (eval (.Call (.Name (Str.ofString "enumerate") pr) [e] [] ai) X.aa=(do callWith ai (← eval (.Name (Str.ofString "enumerate") pr) X.aa) [] (backTo ai (starEach [e] X.aa)) (backToKw ai (keywordEach [] X.aa)))) Jm.a0),IE X ρ σ (.Call (.Name (Str.ofString "enumerate") pr) [e] [] ai) aB K ep:=by
 revert X ρ σ K ep
 rintro X ρ σ K ep e aB pr ai:(_)
 w_up
 intro hc
 intro φ s hA hF
 have run:=uu (X:=X) (ρ:=ρ) (σ:=σ) (ep:=ep) (P:=fun aH σ' v s'=>∃a,LU X a aH σ' v s'∧((∃t aw,σ' a=some (t,.list aw)∧K (cI aw) (fun σ=>∃t,σ a=some (t,.list aw)) σ')∨∃aw,lJ aH s'.heap a aw∧K (cI aw) (fun _=>True) σ')) hp
  (ji hk hg (v:=.type "enumerate") (by k_in) %[|0] ⟨.type "enumerate",fun φ v e=>e,oh,ET.mono h fun v ah hv=>?_⟩) he hc hA hF
 ·refine aL run (fun va aj hq=>?_) fun _ _ e=>e;obtain⟨aX,ah,ax,a,⟨e',it,hv,he,hi,n1,n2,n3,hits⟩,hK⟩:=hq;subst hv;refine aD (wpAny_pyIter_enum he ?_);rcases hK with hK|hK
  ·obtain⟨t,aw,ea,hK⟩:=hK;exact⟨aX,ah,_,_,_,_,_,rfl,ax,fE.enum (P:=fun _ _=>True) (src:=fun σ=>∃t,σ a=some (t,.list aw)) ht n1 n2 n3 (fun c φ σ s hA bR _=>by obtain⟨t,e⟩:=bR;exact u5 hA e) (fun _ _ _ _ _ _ _=>trivial),⟨⟨_,he⟩,hi,trivial⟩,hits,⟨t,ea⟩,hK⟩
  obtain⟨aw,F,hK⟩:=hK;exact⟨aX,ah,_,_,_,_,_,rfl,ax,fE.enum (P:=fun φ h=>lJ φ h a aw) (src:=fun _=>True) ht n1 n2 n3 (fun c φ σ s hA _ p=>p.list) (fun _ _ _ _ p x kf=>p.keep x kf),⟨⟨_,he⟩,hi,F⟩,hits,trivial,hK⟩
 intro hc φ s vs hA qX
 obtain⟨w,r,rfl,h1,h2⟩:=qX.cons_inv
 have:=bg.bO.mp h2;subst this
 rcases hv with hK|hK
 ·obtain⟨a,t,aw,rfl,ea,hK⟩:=hK;have h1:w=.ref a:=h1;subst h1;obtain⟨xs,hl,_⟩:=u5 hA ea;exact aL (pI hA hl) (fun v s' bR=>by obtain⟨aH,σ',S,i,e1,e2⟩:=bR;exact⟨aH,σ',S,a,i,.inl ⟨t,aw,by rw[e1];exact ea,by rw[e1];exact hK⟩⟩) fun _ _ e=>e
 obtain⟨aw,rfl,hK⟩:=hK
 obtain⟨a,rfl,F⟩:=G2 hA h1
 obtain⟨xs,hl,_⟩:=F.list
 exact aL (pI hA hl) (fun v s' bR=>by obtain⟨aH,σ',S,i,e1,e2⟩:=bR;exact⟨aH,σ',S,a,i,.inr ⟨aw,by rw[e2];exact F.keep (.refl _) (fun b o e=>(S.at_.rep.fz b o (by rw[e2];exact e)).1),by rw[e1];exact hK⟩⟩) fun _ _ e=>e
end
theorem At.sub(h:At φ s σ c G)(k:∀b∈c'.pv,b∈c.pv)(hs:gP c'.bA c'.pv s.heap):At φ s σ c' G:=
 ⟨h.rep,fun b hb=>h.pv b (k b hb),hs,h.gens⟩
theorem gP.up{bA:List Env}{P:List Addr}{h:Heap}(x:gP bA P h)(k:∀b∈P,b∈P'):gP bA P' h:=fun aa he=>by
 obtain⟨h1,L,o,h2,h3,r⟩:=x aa he
 exact⟨h1,L,o,h2,k _ h3,r⟩
theorem At.super(h:At φ s σ c G)(hk:c'.bA=c.bA)(k:∀b∈c.pv,b∈c'.pv)
 (hn:∀b∈c'.pv,b∈c.pv∨(φ b=none∧σ b=none∧∃o,s.heap.get? b=some o∧(Fm o→∀vs,o.data≠.fields vs))):At φ s σ c' G:=by
 refine⟨h.rep,fun b hb=>?_,by rw[hk];exact h.bA.up k,h.gens⟩
 rcases hn b hb with hb|hK
 ·exact h.pv b hb
 obtain⟨h1,h2,o,ho,hc⟩:=hK
 exact⟨h1,h2,o,ho,hc⟩
theorem Ns.LW{h:Heap}(x:h.Ns a m):∃o,h.get? a=some o∧(Fm o→∀vs,o.data≠.fields vs):=by
 obtain⟨o,es,ep,ho,hd,_⟩:=x
 exact⟨o,ho,fun _ vs z=>by nomatch hd,z⟩
theorem g6{e:Value}{P:List Addr}{p:Prop}(h:cH G c P s φ b0 e s'):p:=by
 obtain⟨_,_,_,_,_,_,_,_,h3,_⟩:=h
 exact h3.elim
noncomputable def pd(scope:Scope)(cl:List (Str×Addr))(aa:Env)(ρ:Loc):Loc:=fun x=>if(compEnvC scope cl 0 aa).kindOf x=some .local then none else ρ x
noncomputable def Fx.comp(X:Fx)(scope:Scope)(cl:List (Str×Addr))(C:Addr)(xs:List Addr):Fx:=⟨X.G,⟨X.c.A,X.c.bA,[C],xs++X.c.pv⟩,compEnvC scope cl C X.aa,X.n⟩
theorem gD{cl:List (Str×Addr)}{b:Addr}{xs:List Addr}:b∈(X.comp scope cl C xs).c.pv↔b=C∨b∈xs∨b∈X.c.pv:=by
 show b∈[C]++(xs++X.c.pv)↔_
 simp
theorem cV.comp{cl:List (Str×Addr)}{xs:List Addr}{h:Heap}(F:cV X.aa X.c ρ φ h)(hn:h.Ns C m)(hk:scope.kind=.function)
 (dS:∀x a,cl.lookup x=some a→X.aa.cells.lookup x=some a∧(X.aa.kindOf x=some .cell∨X.aa.kindOf x=some .free))(hC:C∉xs++X.c.pv) :
  cV (X.comp scope cl C xs).aa (X.comp scope cl C xs).c (pd scope cl X.aa ρ) φ h:=by
 refine⟨hk,F.gl,F.bi,mem_singleton.mpr rfl,⟨m,hn,fun x v e1 e2=>?_⟩,fun b hb=>?_,fun x y a e1 e2=>?_,fun x a e=>?_⟩
 ·unfold pd at e1;nomatch(bh (show(compEnvC scope cl 0 X.aa).kindOf x=some .local from e2)),e1
 ·rw[dE hb];exact hC
 ·exact F.inj x y a (dS x a e1).1 (dS y a e2).1
 obtain⟨h1,h2⟩:=dS x a e
 obtain⟨h3,cv,h4,h5⟩:=F.cl x a h1
 refine⟨gD.mpr (.inr (.inr h3)),cv,h4,fun v e1 _=>?_⟩
 unfold pd at e1
 by_cases z:(compEnvC scope cl 0 X.aa).kindOf x=some .local
 ·nomatch(bh z),e1
 rw[aY z]at e1;exact h5 v e1 h2
theorem tI{aq:Program}{w:World}{A:Around}{R:Result→aG→Prop}{s:aG}{eg aB bK:Expr}{ifs:List Expr}{scope:Scope}{ai:Pos}{it aR:Value}{aa:Env}(I:Nat→aG→Prop)
 (turn:∀n s,I n s→wpAny (model aq w) A s (cE (model aq w) A aa fun e s'=>R (.error e) s') (pyNext it) (fun r aj=>match r with
   |none=>R (.ok .next) aj
   |some v=>wpAny (model aq w) A aj (cE (model aq w) A aa fun e s'=>R (.error e) s') (letOwnedTupleGo aB it v) (fun _ s₀=>wpAny (model aq w) A s₀ (cE (model aq w) A aa fun e s'=>R (.error e) s') (assign aB aa v) (fun _ aO =>
     wpAny (model aq w) A aO (cE (model aq w) A aa fun e s'=>R (.error e) s') (forIn ifs true fun c r=>if r=true then do let ok ← isTrue c aa (eval c aa);pure (ForInStep.yield ok)else pure (ForInStep.yield r)) (fun ok bI =>
      if ok=true then wpAny (model aq w) A bI (cE (model aq w) A aa fun e s'=>R (.error e) s') (eval eg aa) (fun x gS =>
       wpAny (model aq w) A gS (cE (model aq w) A aa fun e s'=>R (.error e) s') (call (.builtin "list.append") [aR,x]) (fun _ gT=>∃m,m<n∧I m gT))
      else ∃m,m<n∧I m bI)))))
 (n:Nat)(h:I n s) :
  bw (model aq w) A (.compLoop (.ListComp eg [⟨aB,bK,ifs,0⟩] scope ai) 0 it aR aa) R s:=by
 revert turn h
 revert aq w A R s eg aB bK ifs scope ai it aR aa I n
 rintro aq w A R s eg aB bK ifs scope ai it aR aa I n:(_)
 intro turn h
 refine yN rfl rfl I (?_) n h
 rintro n s:(_)
 intro hI
 show wpAny _ A s _ ((compTurn (.ListComp eg [⟨aB,bK,ifs,0⟩] scope ai) 0 it aR aa).onRaise (fun x=>do noteFrame x aa;theTreesLotGoes x)) _
 refine jI ?_
 rw[compTurn_list]
 refine ak (dW (ak (aL (turn n s hI) (fun r aj aN=>?_) fun _ _ h'=>h')))
 cases r with
 |none=>exact ao aN
 |some v =>
  refine ak (aL aN (fun _ s₀ h₀=>?_) fun _ _ h'=>h');refine ak (aL h₀ (fun _ aO bE=>ak (aL bE (fun ok bI gJ=>?_) fun _ _ h'=>h')) fun _ _ h'=>h');cases ok with
  |false=>exact ao ⟨rfl,gJ⟩
  |true =>
   exact ak (ak (aL gJ (fun x gS i7=>ak (aL i7 (fun _ gT lH=>ao (ao ⟨rfl,lH⟩)) fun _ _ h'=>h')) fun _ _ h'=>h'))
noncomputable def LT(X:Fx)(ρ:Loc)(σ:St)(ifs:List Expr)(K:Bool→St→Prop):Prop:=match ifs with
 |[]=>K true σ
 |[c]=>IT b0 X σ ρ K c
 |_=>False
theorem LX{K:Bool→St→Prop}(h:LT X ρ σ ifs K)(hc:dM X.n X.c)(hA:At φ s σ X.c X.G)(hF:cV X.aa X.c ρ φ s.heap) :
  wpAny X.G.M X.c.A s E (forIn ifs true fun c r=>if r=true then do let ok ← isTrue c X.aa (eval c X.aa);pure (ForInStep.yield ok)else pure (ForInStep.yield r)) (fun b s'=>∃aH σ',aV X.G X.c X.c.pv s φ s' aH σ'∧K b σ'):=by
 match ifs,h with
 |[],h=>exact aD (wpAny_tests_nil ⟨φ,σ,.refl hA,h⟩)
 |[c],h =>
  refine uO (bG.go (h hc φ s hA hF) (fun b aj aX ah b' ax rb k=>?_) fun _ _ e=>g6 e);have rb:b=b':=rb;subst rb;exact⟨aX,ah,ax,k⟩
 |_::_::_,h=>exact h.elim
noncomputable def u9(X:Fx)(ρ:Loc)(σ:St)(eg aB:Expr)(ifs:List Expr)(src:St→Prop)(Inv:Nat→List LV→St→Prop)(i:Nat)(v:LV)(aR:List LV):Prop:=
 AS b0 ρ σ X (assign aB X.aa) (fun aC bz=>LT X aC bz ifs (fun b cg=>Br b (ET b0 X aC cg eg (fun y dZ=>src dZ∧Inv (i+1) (aR++[y]) dZ)) (src cg∧Inv (i+1) aR cg))) v
structure CC(scope:Scope)(cl:List (Str×Addr))(aa:Env):Prop where
 dO:closureFor scope aa=pure cl
 kind:scope.kind=.function
 names:∀x∈scope.names,x.2=.local→scope.names.lookup x.1=some .local
 cell:∀y∈scope.names,y.2≠.cell
 cl:∀x a,cl.lookup x=some a→aa.cells.lookup x=some a∧(aa.kindOf x=some .cell∨aa.kindOf x=some .free)
noncomputable def qt(X:Fx)(φ:FZ)(σ:St)(s:aG)(D:Addr)(aR:List LV):Prop:=D∉X.c.pv∧φ D=none∧σ D=none∧∃ys,s.heap.PlainList D ys∧bg φ aR ys.toList
section
variable {X:Fx}{ρ:Loc}{σ:St}{ep:EP}
theorem Bs{eg bK aB:Expr}{ifs:List Expr}{scope:Scope}{cl:List (Str×Addr)}{ai pos':Pos}{Out:List LV→St→Prop}{use:Option (Value→Sem Unit)}{Q:bN}{E:bN}(L:CC scope cl X.aa){φ:FZ}{s:aG}
 (h:IE X ρ σ bK aB (fun aw src ah=>aw.length≤10000∧∃Inv:Nat→List LV→St→Prop,Inv 0 [] ah∧
   (∀C xs i v aR ae,aw[i]?=some v→src ae→Inv i aR ae→u9 (X.comp scope cl C xs) (pd scope cl X.aa ρ) ae eg aB ifs src Inv i v aR)∧
   ∀aR ae,src ae→Inv aw.length aR ae→Out aR ae) ep)(hc:dM X.n X.c)(hA:At φ s σ X.c X.G)(hF:cV X.aa X.c ρ φ s.heap)
 (hE:∀e s',cH X.G X.c X.c.pv s φ ep e s'→E e s')
 (hQ:∀C D aH σ' s' aR m,aV X.G X.c X.c.pv s φ s' aH σ'→s'.heap.Ns C m→C∉X.c.pv→aH C=none→σ' C=none→C≠D→qt X aH σ' s' D aR→Out aR σ'→
   match use with
   |none=>∀h',Heap.SameBut C s'.heap h'→Q (.ref D) {s' with heap:=h'}
   |some u=>wpAny X.G.M X.c.A s' E (u (.ref D)) (fun _ bQ=>∃m,bQ.heap.Ns C m∧∀h',Heap.SameBut C bQ.heap h'→Q .none {bQ with heap:=h'}))
 (hs:autoParam (∀x,foldedSetIterable bK X.aa x=pure x) Jm.a3) :
  wpAny X.G.M X.c.A s E (comprehension (.ListComp eg [⟨aB,bK,ifs,0⟩] scope ai) scope X.aa pos' (newList []) false (eval bK X.aa) use) Q:=by
 revert L h hc hA hF hE hQ hs
 revert X ρ σ ep eg bK aB ifs scope cl ai pos' Out use Q E φ s
 rintro X ρ σ ep eg bK aB ifs scope cl ai pos' Out use Q E:(_)
 rintro φ s:(_)
 intro L h hc hA hF hE hQ hs
 refine nj (cl:=cl) rfl hs L.dO L.kind L.names (aL (h hc φ s hA hF) (fun va aj aN=>aL aN (?_) hE) hE)
 rintro Il aO:(_)
 intro bE
 obtain⟨bp,ae,it,its,I,aw,src,rfl,aP,IO,hI,hits,ze,hlen,Inv,LP,Cz,Cu⟩:=bE
 refine aD (rD (aD (wpAny_newFunctionEnv L.cell (by intro y hy;simp at hy) (fun aN vf vg=>?_) L.kind)))
 dsimp only at vf vg ⊢
 generalize LY:aO.heap.push {cls:=.type "list",dict:=none,data:=.seq ([]:List Value).toArray}=H2 at vf vg ⊢
 have hC:H2.objs.size=aO.heap.objs.size+1:=by rw[← LY,Heap.size_push]
 generalize hCd:H2.objs.size=C at *
 generalize LZ:aO.heap.objs.size=D at *
 have EE:D≠C:=by rw[hC];exact m9 (Nat.lt_succ_self _)
 have nC:aO.heap.get? C=none:=jz (by rw[LZ,hC];exact Nat.le_succ _)
 have nD:aO.heap.get? D=none:=jz (by rw[LZ];exact fg _)
 have old:∀b o,aO.heap.get? b=some o→aN.get? b=some o:=fun b o e=>vg.extBut b o (by first|exact Lake.cR nC e|exact Lake.cD nC e|exact Lake.iI nC e rfl|exact Lake.fG nC e rfl|exact(fun z=>by rw[z,nC]at e;cases e)) (fb _ (LY▸fb _ e))
 have uv:aN.PlainList D #[]:=⟨_,vg.extBut _ _ EE (fb _ (LY▸LZ▸eO _ rfl))⟩
 have vh:∀b∈its,b≠D∧b≠C:=fun b hb=>by
  obtain⟨o,ho,_⟩:=IO.live _ _ _ hI b hb;exact⟨fun z=>(by rw[z,nD]at ho;cases ho),fun z=>(by rw[z,nC]at ho;cases ho)⟩
 have fC:=aP.at_.fresh nC
 have fD:=aP.at_.fresh nD
 have Sv:C∉(D::its)++X.c.pv:=fun hm=>by
  rcases eG hm with hm|hm
  ·rcases eb hm with z|hm
   ·exact EE z.symm
   exact(vh _ hm).2 rfl
  exact fC.2.2 hm
 let X':=X.comp scope cl C (D::its)
 have oj:dM X'.n X'.c:=⟨hc.frames,hc.handled,hc.depth,hc.units⟩
 have Io:∀b∈X.c.pv,b∈X'.c.pv:=fun b hb=>gD.mpr (.inr (.inr hb))
 let J:Nat→aG→Prop:=fun k s'=>∃i aH σ' aR ys m,k=aw.length-i∧i≤aw.length∧aR.length≤i∧At aH s' σ' X'.c X.G∧Ext φ aH∧eH X.c.pv s.heap s'.heap∧s'.os=s.os∧s'.heap.Ns C m∧s'.heap.PlainList D ys∧bg aH aR ys.toList∧I i aH s'.heap∧src σ'∧Inv i aR σ'
 let R:Result→aG→Prop:=uf X.G.M X.c.A E use Q (.ref D) C
 have loop:∀bI:aG,bI={aO with heap:=aN,toks:=aO.toks+([]:List (Str×Value)).length}→
   bw X.G.M X.c.A (.compLoop (.ListComp eg [⟨aB,bK,ifs,0⟩] scope ai) 0 (.ref it) (.ref D) (compEnvC scope cl C X.aa)) R bI:=by
  rintro bI:(_);rintro rfl;refine tI J (fun k s' hJ=>?_) aw.length ⟨0,bp,ae,[],#[],_,by simp,lB _,fg _,?_,aP.ext,aP.bT.trans (.keeps old),aP.os,vf,uv,rfl,IO.keep _ _ _ _ _ hI (.refl _) (fun b o e=>old _ _ (aP.at_.rep.fz b o e).1) (fun b _ o e=>old b o e),ze,LP⟩
  ·obtain⟨i,aH,σ',aR,ys,m,rfl,hle,rX,xp,hx,rU,pG,iV,QI,hr,EC,eI,zf⟩:=hJ;have F':cV X.aa X.c ρ aH s'.heap:=hF.step hx rU;have EF:gP X.c.bA X.c.pv s'.heap:=hA.bA.of rU;let c₀:Ctx:=⟨X.c.A,X.c.bA,[C],D::X.c.pv⟩
   have lW:∀b,b∈c₀.pv↔b=C∨b=D∨b∈X.c.pv:=fun b=>by
    show b∈[C]++(D::X.c.pv)↔_;simp
   have A₀:At aH s' σ' c₀ X.G:=xp.sub (fun b hb=>by
    rcases(lW b).mp hb with e|e|hb
    ·exact gD.mpr (.inl e)
    ·exact gD.mpr (.inr (.inl (mem_cons.mpr (.inl e))))
    exact Io b hb) (EF.up fun b hb=>(lW b).mpr (.inr (.inr hb)))
   have ur:∀b∈its,b∉c₀.pv∧aH b=none∧σ' b=none:=fun b hb=>by
    have hm:b∈X'.c.pv:=gD.mpr (.inr (.inl (gb _ hb)));refine⟨fun z=>?_,(xp.pv b hm).1,(xp.pv b hm).2.1⟩;rcases(lW b).mp z with z|z|z
    ·exact(vh b hb).2 z
    ·exact(vh b hb).1 z
    exact(hits b hb).1 z
   cases hv:aw[i]? with
   |none =>
    have hi:i=aw.length:=by have:=List.getElem?_eq_none_iff.mp hv;exists hle,this
    subst hi;refine aL (IO.fin X.n c₀ aH σ' s' (fun bQ=>R (.ok .next) bQ) _ ⟨hc.frames,hc.handled,hc.depth,hc.units⟩ A₀ ur eI EC fun eR eN jC rV mG pH=>?_) (fun r bQ bR=>by obtain⟨hr,hq⟩:=bR;subst hr;exact hq) fun _ _ z=>z;have kC:∀o,s'.heap.get? C=some o→eN.get? C=some o:=fun o e=>pH C o (fun z=>(vh C z).2 rfl) e;have kD:∀o,s'.heap.get? D=some o→eN.get? D=some o:=fun o e=>pH D o (fun z=>(vh D z).1 rfl) e;have kp:eH X.c.pv s'.heap eN:=fun b hb o e=>⟨o,pH b o (fun z=>(hits b z).1 hb) e,.inl rfl⟩;have Sw:At eR {s' with heap:=eN,toks:=jC} σ' X.c X.G:=rV.sub (fun b hb=>(lW b).mpr (.inr (.inr hb))) (EF.of kp);have cS:aV X.G X.c X.c.pv s φ {s' with heap:=eN,toks:=jC} eR σ':=⟨Sw,hx.trans mG,rU.trans kp,pG⟩;have mC:C∈c₀.pv:=(lW C).mpr (.inl rfl);have mD:D∈c₀.pv:=(lW D).mpr (.inr (.inl rfl));have CD:eN.Ns C m:=iV.at' kC;have res:=hQ C D eR σ' {s' with heap:=eN,toks:=jC} aR m cS CD fC.2.2 (rV.pv C mC).1 (rV.pv C mC).2.1 (Ne.symm EE) ⟨fD.2.2,(rV.pv D mD).1,(rV.pv D mD).2.1,ys,QI.at kD,hr.mono mG⟩ (Cu aR σ' eI zf);show uf X.G.M X.c.A E use Q (.ref D) C (.ok .next) _;cases use with
    |none=>exact⟨m,CD,res⟩
    |some u=>exact res
   |some v =>
    have hi:i<aw.length:=by
     rcases Nat.lt_or_ge i aw.length with h|h
     ·exact h
     nomatch(List.getElem?_eq_none h),hv
    refine aL (IO.item X.n c₀ aH σ' s' i v (fun w bQ=>wpAny X.G.M X.c.A bQ (cE X.G.M X.c.A (compEnvC scope cl C X.aa) fun e s'=>R (.error e) s') (assign aB (compEnvC scope cl C X.aa) w) (fun _ aO =>
     wpAny X.G.M X.c.A aO (cE X.G.M X.c.A (compEnvC scope cl C X.aa) fun e s'=>R (.error e) s') (forIn ifs true fun c r=>if r=true then do let ok ← isTrue c (compEnvC scope cl C X.aa) (eval c (compEnvC scope cl C X.aa));pure (ForInStep.yield ok)else pure (ForInStep.yield r)) (fun ok bI =>
      if ok=true then wpAny X.G.M X.c.A bI (cE X.G.M X.c.A (compEnvC scope cl C X.aa) fun e s'=>R (.error e) s') (eval eg (compEnvC scope cl C X.aa)) (fun x gS =>
       wpAny X.G.M X.c.A gS (cE X.G.M X.c.A (compEnvC scope cl C X.aa) fun e s'=>R (.error e) s') (call (.builtin "list.append") [.ref D,x]) (fun _ gT=>∃m,m<aw.length-i∧J m gT))
      else ∃m,m<aw.length-i∧J m bI))) _ ⟨hc.frames,hc.handled,hc.depth,hc.units⟩ A₀ ur eI EC hv fun eR eN jC w rV mG LS pH pb rw=>?_) (fun r bQ bR=>by obtain⟨w,hr,hq⟩:=bR;subst hr;exact hq) fun _ _ z=>z
    have kC:∀o,s'.heap.get? C=some o→eN.get? C=some o:=fun o e=>pH C o (fun z=>(vh C z).2 rfl) e;have kD:∀o,s'.heap.get? D=some o→eN.get? D=some o:=fun o e=>pH D o (fun z=>(vh D z).1 rfl) e;have kp:eH X.c.pv s'.heap eN:=fun b hb o e=>⟨o,pH b o (fun z=>(hits b z).1 hb) e,.inl rfl⟩;have CD:eN.Ns C m:=iV.at' kC
    have Sx:At eR {s' with heap:=eN,toks:=jC} σ' X'.c X.G:=rV.super rfl (fun b hb=>by
     rcases(lW b).mp hb with e|e|hb
     ·exact gD.mpr (.inl e)
     ·exact gD.mpr (.inr (.inl (mem_cons.mpr (.inl e))))
     exact Io b hb) fun b hb=>by
     rcases gD.mp hb with e|hb|hb
     ·exact .inl ((lW b).mpr (.inl e))
     ·rcases eb hb with e|hb
      ·exact .inl ((lW b).mpr (.inr (.inl e)))
      obtain⟨o,ho,dS⟩:=IO.live _ _ _ pb b hb;exact .inr ⟨LS b hb,(ur b hb).2.2,o,ho,fun z=>absurd z dS⟩
     exact .inl ((lW b).mpr (.inr (.inr hb)))
    have rW:cV X'.aa X'.c (pd scope cl X.aa ρ) eR eN:=(F'.step mG kp).comp CD L.kind L.cl Sv;refine kJ.go (Cz C (D::its) i v aR σ' hv eI zf oj eR {s' with heap:=eN,toks:=jC} w Sx rW rw) (fun _ bI fU bz qr cS wG hb=>?_) fun _ _ z=>g6 z;refine aL (LX (E:=fun _ _=>False) hb oj cS.at_ wG) (fun b gS hq=>?_) fun _ _ z=>z.elim;obtain⟨gw,cg,fZ,hb⟩:=hq;have G3:=wG.step fZ.ext fZ.bT;have eS:aV X.G X'.c X'.c.out {s' with heap:=eN,toks:=jC} eR gS gw cg:=cS.trans fZ.bP;have G4:∀b∈X.c.pv,b∈X'.c.out:=fun b hb=>il _ hb
    have fin:∀ {jY jj fN G6 yu rY},aV X.G X'.c X'.c.out {s' with heap:=eN,toks:=jC} eR jY jj fN→jY.heap.Ns C G6→jY.heap.PlainList D yu→bg jj rY yu.toList→rY.length≤i+1→src fN∧Inv (i+1) rY fN→I (i+1) jj jY.heap→∃m,m<aw.length-i∧J m jY:=fun {jY jj fN G6 yu rY} gU Sy Sz SA SD L5 SE =>
     ⟨aw.length-(i+1),by(have w0:=Ln.fS (aw.length) (i+1);have w1:=Ln.fS (aw.length) (i);revert hi w0 w1;room),i+1,jj,fN,rY,yu,G6,rfl,hi,SD,gU.at_,(hx.trans mG).trans gU.ext,(rU.trans kp).trans (gU.bT.mono G4),gU.os.trans pG,Sy,Sz,SA,SE,L5.1,L5.2⟩
    have Ip:∀ {jY jj fN},aV X.G X'.c X'.c.out {s' with heap:=eN,toks:=jC} eR jY jj fN→I (i+1) jj jY.heap∧jY.heap.PlainList D ys:=fun {jY jj fN} gU=>by
     have ex:∀b∈X'.c.out,∀o,eN.get? b=some o→¬Fm o→jY.heap.get? b=some o:=fun b hb o ho dS=>by
      obtain⟨o',eD,hp⟩:=gU.bT b hb o ho;rcases hp with rfl|hK
      ·exact eD
      obtain⟨hp,_⟩:=hK;exact absurd hp dS
     refine⟨IO.keep _ _ _ _ _ pb gU.ext (fun b o e=>(gU.at_.rep.fz b o (gU.ext b o e)).1) fun b hb o ho=>?_,?_⟩
     ·obtain⟨yU,aN,k₁⟩:=IO.live _ _ _ pb b hb;have:o=yU:=by rw[aN]at ho;cases ho;rfl
      subst this;exact ex b (ik _ (gb _ hb)) o ho k₁
     obtain⟨n,e⟩:=QI.at kD;exact⟨n,ex D (ik _ (gQ ..)) _ e (u0 rfl fun _ _ z=>by cases z)⟩
    cases b with
    |false =>
     rw[aY mw];obtain⟨SG,SH⟩:=Ip eS;obtain⟨Y7,SI,_⟩:=G3.ns;exact fin eS SI SH (hr.mono (mG.trans eS.ext)) (Nat.le_succ_of_le rX) (hb.2 rfl) SG
    |true =>
     rw[bh rfl];refine bG.go (hb.1 rfl oj gw gS fZ.at_ G3) (fun y gT jR dZ ly gU ry L6=>?_) fun _ _ z=>g6 z;have nv:aV X.G X'.c X'.c.out {s' with heap:=eN,toks:=jC} eR gT jR dZ:=eS.trans gU.bP;obtain⟨SJ,SK⟩:=Ip nv;obtain⟨SM,SN,_⟩:=(G3.step gU.ext gU.bT).ns;have Iq:ys.toList.length=aR.length:=hr.length;refine aD (wpAny_list_append_plain (hsz:=by rw[dH];simp at Iq;exists hlen,rX,hi,Iq) SK fun zm L7 yv=>?_);have yv:Heap.SameBut D gT.heap zm:=yv;let c₁:Ctx:=⟨X.c.A,X.c.bA,[C],its++X.c.pv⟩
     have tg:∀b,b∈c₁.pv↔b=C∨b∈its∨b∈X.c.pv:=fun b=>by
      show b∈[C]++(its++X.c.pv)↔_;simp
     have SO:∀b∈c₁.pv,b≠D:=fun b hb=>by
      rcases(tg b).mp hb with e|hb|hb
      ·exact e▸Ne.symm EE
      ·exact(vh b hb).1
      intro z;exact fD.2.2 (z▸hb)
     have mD:D∈X'.c.pv:=gD.mpr (.inr (.inl (gQ ..)));have G7:∀b o,b∉[D]→gT.heap.get? b=some o→zm.get? b=some o:=di yv.extBut
     have EG:∀b∈c₁.pv,b∈X'.c.pv:=fun b hb=>by
      rcases(tg b).mp hb with e|hb|hb
      ·exact gD.mpr (.inl e)
      ·exact gD.mpr (.inr (.inl (gb _ hb)))
      exact Io b hb
     have L8:gP X.c.bA c₁.pv gT.heap:=(hA.bA.of ((rU.trans kp).trans (nv.bT.mono G4))).up fun b hb=>(tg b).mpr (.inr (.inr hb))
     have SP:At jR {gT with heap:=zm} dZ c₁ X.G:=(nv.at_.sub EG L8).fR (n:=gT.toks) (its:=[D]) (fun b hb=>by
      rw[dE hb];exact⟨fun z=>SO D z rfl,(nv.at_.pv D mD).1,(nv.at_.pv D mD).2.1⟩) G7
     have L9:At jR {gT with heap:=zm} dZ X'.c X.G:=SP.super rfl EG fun b hb=>by
      rcases gD.mp hb with e|hb|hb
      ·exact .inl ((tg b).mpr (.inl e))
      ·rcases eb hb with e|hb
       ·rw[e];obtain⟨n,e⟩:=L7;exact .inr ⟨(nv.at_.pv D mD).1,(nv.at_.pv D mD).2.1,_,e,fun z=>absurd z (u0 rfl fun _ _ z=>by cases z)⟩
       exact .inl ((tg b).mpr (.inr (.inl hb)))
      exact .inl ((tg b).mpr (.inr (.inr hb)))
     have Vj:eH X.c.pv gT.heap zm:=fun b hb o e=>⟨o,G7 b o (fun z=>by
      have:b=D:=dE z;exact fD.2.2 (this▸hb)) e,.inl rfl⟩
     refine⟨aw.length-(i+1),by(have w0:=Ln.fS (aw.length) (i+1);have w1:=Ln.fS (aw.length) (i);revert hi w0 w1;room),i+1,jR,dZ,aR++[ly],ys.push y,SM,rfl,hi,by rw[dv,List.length_singleton];(exists rX),L9,(hx.trans mG).trans nv.ext,((rU.trans kp).trans (nv.bT.mono G4)).trans Vj,nv.os.trans pG,SN.sameBut yv (Ne.symm EE),L7,?_,?_,L6.1,L6.2⟩
     ·rw[Array.toList_push];exact(hr.mono (mG.trans nv.ext)).append (bg.cZ.mpr ⟨ry,rfl⟩)
     exact IO.keep _ _ _ _ _ SJ (.refl _) (fun b o e=>(L9.rep.fz b o e).1) fun b hb o e=>G7 b o (fun z=>by
      have:b=D:=dE z;exact(vh b hb).1 this) e
  refine(aP.at_.keeps old).super rfl Io fun b hb=>?_;rcases gD.mp hb with e|hb|hb
  ·rw[e];exact .inr ⟨fC.1,fC.2.1,Ns.LW vf⟩
  ·rcases eb hb with e|hb
   ·rw[e];obtain⟨n,e⟩:=uv;exact .inr ⟨fD.1,fD.2.1,_,e,fun z=>absurd z (u0 rfl fun _ _ z=>by cases z)⟩
   obtain⟨o,ho,dS⟩:=IO.live _ _ _ hI b hb;exact .inr ⟨(hits b hb).2.1,(hits b hb).2.2,o,old _ _ ho,fun z=>absurd z dS⟩
  exact .inl hb
 exact oX (loop _ rfl) (IO.self _ 0 bp _ _ _ (IO.keep _ _ _ _ _ hI (.refl _) (fun b o e=>old _ _ (aP.at_.rep.fz b o e).1) (fun b _ o e=>old b o e)) (loop _ rfl))
theorem At.G8{D:Addr}{ob:Obj}(A:At φ s σ c G)(h1:D∉c.pv)(h2:φ D=none)(h3:σ D=none)(h4:s.heap.get? D=some ob):At (iQ φ D ob) s σ c G:=
 ⟨A.rep.freeze h4 h2 h3,fun b hb=>⟨by unfold iQ;rw[aY (fun z:b=D=>h1 (z▸hb))];exact(A.pv b hb).1,(A.pv b hb).2⟩,A.bA,A.gens⟩
theorem At.O7{D:Addr}{o:LO}(A:At φ s σ c G)(h1:D∉c.pv)(h2:φ D=none)(h3:σ D=none)(h4:OR G φ (upd σ D (t,o)) s.heap D o):At φ s (upd σ D (t,o)) c G:=
 ⟨A.rep.add h2 h3 h4,fun b hb=>⟨(A.pv b hb).1,by rw[av _ _ (fun z:b=D=>h1 (z▸hb))];exact(A.pv b hb).2.1,(A.pv b hb).2.2⟩,A.bA,A.gens⟩
noncomputable def eL(aR:List LV)(σ:St)(K:LV→St→Prop):Prop:=K (.fl aR) σ∨∃t,∀D,σ D=none→K (.ref D) (upd σ D (t,.list aR))
theorem qt.seen{φ:FZ}{σ:St}{s s₀:aG}{D:Addr}{aR:List LV}{K:LV→St→Prop}{cC:FZ}(S:aV X.G X.c X.c.pv s₀ cC s φ σ)(N:qt X φ σ s D aR)(h:eL aR σ K) :
  ∃aH σ' lv,aV X.G X.c X.c.pv s₀ cC s aH σ'∧VR aH lv (.ref D)∧K lv σ'∧∀b,b≠D→φ b=none→σ b=none→aH b=none∧σ' b=none:=by
 revert S N h
 revert X φ σ s s₀ D aR K cC
 rintro X φ σ s s₀ D aR K cC:(_)
 intro S N h
 obtain⟨h1,h2,h3,ys,hp,hr⟩:=N
 rcases h with h|hK
 ·obtain⟨n,e⟩:=id hp;refine⟨_,σ,.fl aR,⟨S.at_.G8 h1 h2 h3 e,S.ext.trans (i6 _ _ h2),S.bT,S.os⟩,?_,h,fun b hb e1 e2=>⟨by unfold iQ;rw[aY hb];exact e1,e2⟩⟩;simp only[lh,ky,kz,kA,kE,kF,kG,ke,kg,ix,iy,iA];exact⟨D,ys,n,rfl,gZ ..,hr.mono (i6 _ _ h2)⟩
 obtain⟨t,h⟩:=hK
 exact⟨φ,_,.ref D,⟨S.at_.O7 (o:=.list aR) h1 h2 h3 ⟨ys,hp,hr⟩,S.ext,S.bT,S.os⟩,rfl,h D h3,fun b hb e1 e2=>⟨e1,(av σ _ hb).trans e2⟩⟩
theorem SQ{σ:St}(S:aV X.G X.c X.c.pv s₀ cC s φ σ)(h1:C∉X.c.pv)(h2:φ C=none)(h3:σ C=none)(hs:Heap.SameBut C s.heap h'):aV X.G X.c X.c.pv s₀ cC {s with heap:=h'} φ σ:=
 ⟨S.at_.fR (n:=s.toks) (fun b hb=>by
  rw[dE hb];exact⟨h1,h2,h3⟩) (di hs.extBut),S.ext,S.bT.trans fun b hb o e=>⟨o,di hs.extBut b o (fun z=>by
   have:b=C:=dE z;exact h1 (this▸hb)) e,.inl rfl⟩,S.os⟩
theorem O8{eg:Expr}{cl:List (Str×Addr)}{ai:Pos}(L:CC scope cl X.aa)
 (h:IE X ρ σ bK aB (fun aw src ah=>aw.length≤10000∧∃Inv:Nat→List LV→St→Prop,Inv 0 [] ah∧
   (∀C xs i v aR ae,aw[i]?=some v→src ae→Inv i aR ae→u9 (X.comp scope cl C xs) (pd scope cl X.aa ρ) ae eg aB ifs src Inv i v aR)∧
   ∀aR ae,src ae→Inv aw.length aR ae→eL aR ae Q) ep)(hs:autoParam (∀x,foldedSetIterable bK X.aa x=pure x) Jm.a3) :
  ET ep X ρ σ (.ListComp eg [⟨aB,bK,ifs,0⟩] scope ai) Q:=fun hc φ s hA hF=>by
 unfold TB
 rw[eval_ListComp]
 refine Bs L h hc hA hF (fun e s' he=>he) (fun C D aH σ' s' aR m S hn c1 c2 c3 Ma N hO=>?_) hs
 intro h' dF
 have S':=SQ S c1 c2 c3 dF
 obtain⟨n1,n2,n3,ys,hp,hr⟩:=N
 obtain⟨aX,ah,lv,a,b,d,_⟩:=qt.seen S' ⟨n1,n2,n3,ys,hp.at fun o e=>(dF.2 D (Ne.symm Ma)).trans e,hr⟩ hO
 exact⟨aX,ah,lv,a,b,d⟩
theorem O9:∀ {eg bK aB:Expr} {ifs:List Expr} {scope:Scope} {cl:List (Str×Addr)} {ai zp py:Pos} {y:Str} {Q:LF→Loc→St→Prop} (L:CC scope cl X.aa) (Vk:swapsWith (.ListComp eg [⟨aB,bK,ifs,0⟩] scope ai) (some (.Name y py)) zp.line X.aa=pure true) (h:IE X ρ σ bK aB (fun aw src ah=>aw.length≤10000∧∃Inv:Nat→List LV→St→Prop,Inv 0 [] ah∧
   (∀C xs i v aR ae,aw[i]?=some v→src ae→Inv i aR ae→u9 (X.comp scope cl C xs) (pd scope cl X.aa ρ) ae eg aB ifs src Inv i v aR)∧
   ∀aR ae,src ae→Inv aw.length aR ae→eL aR ae (fun v bz=>∀its,AS b0 ρ bz (X.add its) (fun w=>storeName X.aa y w) (fun jo cg=>Q .next jo cg) v)) ep) (hs:autoParam (∀x,foldedSetIterable bK X.aa x=pure x) Jm.a3),ST ep σ ρ X Q (exec (.Assign [.Name y py] (.ListComp eg [⟨aB,bK,ifs,0⟩] scope ai) zp) X.aa):=by
 revert X ρ σ ep
 rintro X ρ σ ep eg bK aB ifs scope cl ai zp:(_)
 rintro py y Q:(_)
 w_up
 intro hc
 rintro φ s:(_)
 intro hA hF
 rw[exec_Assign_Name_used _ _ _ _ Vk]
 refine ak (dW (ak ?_))
 show wpAny _ X.c.A s _ (do let _ ← comprehension (.ListComp eg [⟨aB,bK,ifs,0⟩] scope ai) scope X.aa _ (newList []) false (eval bK X.aa) (some (assign (.Name y py) X.aa))) _
 refine ak (aL (Bs (use:=some (assign (.Name y py) X.aa)) (Q:=fun _=>kJ X s φ (Q .next)) L h hc hA hF (fun e s' he=>he.bP) (fun C D aH σ' s' aR m S hn c1 c2 c3 Ma N hO=>?_) hs)
  (fun _ s' bR=>by obtain⟨aH,σ',bt,S,F,q⟩:=bR;exact ao (ao ⟨aH,σ',bt,.next,S,F,rfl,q⟩)) fun _ _ e=>e)
 obtain⟨aX,ah,lv,ax,bD,as,jT⟩:=qt.seen S N hO
 obtain⟨k1,k2⟩:=jT C Ma c2 c3
 have f6:At aX s' ah (X.add [C]).c X.G:=ax.at_.super rfl (fun b hb=>jM.mpr (.inr hb)) fun b hb=>by
  rcases jM.mp hb with hb|hb
  ·rw[dE hb];exact .inr ⟨k1,k2,Ns.LW hn⟩
  exact .inl hb
 have Mb:∀b∈[C],b∉X.c.pv:=fun b hb=>by
  rw[dE hb];exact c1
 have jZ:cV X.aa (X.add [C]).c ρ aX s'.heap:=(hF.step ax.ext ax.bT).s9 Mb
 show wpAny _ X.c.A _ _ (assign (.Name y py) X.aa (.ref D)) _
 refine kJ.go (cL (p:=py) (as [C]) (hc.add [C]) aX s' (.ref D) f6 jZ bD) (fun _ aO bp ae cz aP fQ q=>?_) fun _ _ z=>g6 z
 have mC:C∈(X.add [C]).c.pv:=jM.mpr (.inl (mem_singleton.mpr rfl))
 have Vl:aO.heap.Ns C m:=Ns.bT aP.bT (ik _ (mem_singleton.mpr rfl)) hn
 refine⟨m,Vl,fun h' dF=>⟨bp,ae,cz,?_,?_,q⟩⟩
 ·have B:aV X.G X.c X.c.out s φ aO bp ae:=⟨aP.at_.drop hA.bA,ax.ext.trans aP.ext,(ax.bT.mono uk).trans (aP.bT.mono fun b hb=>il _ hb),aP.os.trans ax.os⟩;refine⟨B.at_.fR (n:=aO.toks) (its:=[C]) (fun b hb=>?_) (di dF.extBut),B.ext,B.bT.trans fun b hb o e=>⟨o,di dF.extBut b o (fun z=>Mb b z (uk b hb)) e,.inl rfl⟩,B.os⟩;rw[dE hb];exact⟨c1,(aP.at_.pv C mC).1,(aP.at_.pv C mC).2.1⟩
 exact(hF.drop fQ).step (.refl _) fun b hb o e=>⟨o,di dF.extBut b o (fun z=>Mb b z hb) e,.inl rfl⟩
end
noncomputable def GI(X:Fx)(a b:LV)(σ:St)(Q:LV→St→Prop)(ep:EP):Prop:=
 dM X.n X.c→∀φ s va vb,At φ s σ X.c X.G→VR φ a va→VR φ b vb→(∃T id,s.TypeIs va T∧typeLookup (.type T) "__getitem__"=pure (some (.builtin id)))∧TB VR s s φ X.G X.c X.c.pv ep (getItem va vb) Q
noncomputable def EO(X:Fx)(ρ:Loc)(σ:St):Option Expr→(LV→St→Prop)→EP→Prop
 |none,Q,_=>Q .none σ
 |some e,Q,ep=>ET ep X ρ σ e Q
section
variable {X:Fx}{ρ:Loc}{σ:St}{Q:LV→St→Prop}{ep:EP}
theorem Mc{slice:Expr}{ai:Pos}(h:ET ep X ρ σ bJ (fun a ah=>ET ep X ρ ah slice (fun b ae=>GI X a b ae Q ep)))
 (hs:∀o i,∃ops,subscripted slice false o i=operate ops (getItem o i)):ET ep X ρ σ (.Subscript bJ slice ai) Q:=fun hc φ s hA hF=>by
 refine Cg (bG.gg (h hc φ s hA hF) (fun va aj aX ah a ax ra aN=>?_))
 refine bG.iW ax (aN hc aX aj ax.at_ (hF.step ax.ext ax.bT)) (fun vb aO bp ae b aP rb bE=>?_)
 obtain⟨⟨T,id,hT,hl⟩,gJ⟩:=bE hc bp aO va vb aP.at_ (ra.mono aP.ext) rb
 obtain⟨ops,ho⟩:=hs va vb
 exact GN hT hl (gJ.up (ax.trans aP)) ho
theorem EH{o:Option Expr}{Q:LV→St→Prop}(h:EO X ρ σ o Q ep)(hc:dM X.n X.c)(hA:At φ s σ X.c X.G)(hF:cV X.aa X.c ρ φ s.heap):TB VR s s φ X.G X.c X.c.pv ep (evalPart o X.aa) Q:=by
 cases o with
 |none=>rw[evalPart_none];exact ao ⟨φ,σ,.none,.refl hA,rfl,h⟩
 |some e=>rw[evalPart_some];exact h hc φ s hA hF
theorem G9{lo hi:Option Expr}(h:EO X ρ σ lo (fun l ah=>EO X ρ ah hi (fun u ae=>Q (.uQ l u) ae) ep) ep):ET ep X ρ σ (.Slice lo hi none p) Q:=fun hc φ s hA hF=>by
 refine AW (bG.gg (EH h hc hA hF) (fun vl aj aX ah l ax rl aN=>?_))
 refine bG.iW ax (EH aN hc ax.at_ (hF.step ax.ext ax.bT)) (fun vu aO bp ae u aP ru bE=>?_)
 rw[evalPart_none]
 refine ao ?_
 have hn:=bC aO.heap
 have cS:=aV.freeze (n:=aO.toks) (ob:={cls:=.type "slice",data:=.fields #[vl,vu,.none]}) aP.at_ (cF _ _) hn (eO _ rfl)
 refine⟨_,ae,.uQ l u,(ax.trans aP).trans cS,?_,bE⟩
 simp only[lh,ky,kz,kA,kE,kF,kG,ke,kg,ix,iy,iA]
 exact⟨_,_,vl,vu,rfl,gZ ..,rfl,rfl,(rl.mono aP.ext).mono cS.ext,ru.mono cS.ext⟩
noncomputable def rZ(σ:St)(v:LV)(vs:List LV):Prop:=v=.fl vs∨∃a t,v=.ref a∧σ a=some (t,.list vs)
noncomputable def g7(σ:St)(v:LV)(vs:List LV):Prop:=rZ σ v vs∨v=.fw vs
theorem rZ.plain(hA:At φ s σ c G)(h:rZ σ v vs)(r:VR φ v w):∃a xs,w=.ref a∧s.heap.PlainList a xs∧bg φ vs xs.toList:=by
 rcases h with rfl|hK
 ·obtain⟨a,rfl,F⟩:=G2 hA r;obtain⟨xs,h1,h2⟩:=F.plain;exact⟨a,xs,rfl,h1,h2⟩
 obtain⟨a,t,rfl,e⟩:=hK
 have r:w=.ref a:=r
 subst r
 obtain⟨xs,h1,h2⟩:=hA.rep.ob _ _ _ e
 exact⟨a,xs,rfl,h1,h2⟩
theorem g7.at{σ:St}(hA:At φ s σ c G)(h:g7 σ v vs)(r:VR φ v w):∃a xs,w=.ref a∧s.heap.IsList a xs∧bg φ vs xs.toList:=by
 rcases h with h|rfl
 ·obtain⟨a,xs,e,h1,h2⟩:=h.plain hA r;exact⟨a,xs,e,h1.isList,h2⟩
 simp only[lh,ky,kz,kA,kE,kF,kG,ke,kg,ix,iy,iA]at r
 obtain⟨a,o,xs,n,h1,h2,h3,h4,h5⟩:=r
 exact⟨a,xs,h1,⟨o,(hA.rep.fz _ _ h2).1,h3,n,h4⟩,h5⟩
theorem dD{ep:EP}{σ:St}{X:Fx}{l:LV}(hl:g7 σ l vs){Q:LV→St→Prop}{k:Int}(h0:0≤k)(hk:k<2 ^ 63)(hv:vs[k.toNat]?=some v)(h:Q v σ):GI X l (.int k) σ Q ep:=fun _ φ s va vb hA ra rb=>by
 obtain⟨a,xs,rfl,hL,hr⟩:=hl.at hA ra
 obtain⟨t,rfl⟩:=rb
 obtain⟨w,hw,rw⟩:=hr.get hv
 refine⟨⟨_,_,hL.typeIs,slot_list_getitem.lookup⟩,?_⟩
 exact aD (wpAny_getItem_list hL h0 hk (by simpa using hw) ⟨φ,σ,v,.refl hA,rw,h⟩)
theorem EI{b:bc}{k:Int}(h0:0≤k)(hk:k<b.length)(hb:b.length≤1000000)(h:Q (.int (b.getD k.toNat 0).toNat) σ):GI X (.bX b) (.int k) σ Q ep:=fun _ φ s va vb hA ra rb=>by
 obtain⟨t,rfl⟩:=ra
 obtain⟨u,rfl⟩:=rb
 refine⟨⟨_,_,iN _ _ _,FB.slot_bytes_getitem.lookup⟩,?_⟩
 exact aD (getItem_bytes %[|hb] h0 hk ⟨φ,σ,.int (b.getD k.toNat 0).toNat,aV.tok hA,⟨_,rfl⟩,h⟩)
noncomputable def oA:LV→Option Int→Prop
 |.none,o=>o=none
 |.int i,o=>o=some i
 |_,_=>False
theorem oA.part{o:Option Int}(h:oA v o)(r:VR φ v w):IsPart w o:=by
 cases v<;>first|(exact h.elim)|skip
 ·have h:o=none:=h;have r:w=.none:=r;subst h;subst r;exact .none
 have h:o=some _:=h
 obtain⟨t,rfl⟩:=r
 subst h;exact .int _ _
noncomputable def f7{α:Type}(vs:List α)(lo hi:Option Int):List α:=(vs.drop (lo.elim 0 (clipAt vs.length))).take (hi.elim vs.length (clipAt vs.length)-lo.elim 0 (clipAt vs.length))
theorem eL.made{aR:List LV}{σ:St}{K:LV→St→Prop}{ys:Array Value}(S:aV X.G X.c X.c.pv s₀ cC s φ σ)(h:eL aR σ K)(hr:bg φ aR ys.toList) :
  bG X.G X.c X.c.pv VR s₀ cC K (.ref s.heap.objs.size) {s with heap:=s.heap.push {cls:=.type "list",data:=.seq ys}}:=by
 have f:=S.at_.fresh (bC s.heap)
 have S':=S.trans (aV.keeps (P:=X.c.pv) (n:=s.toks) S.at_ (cF s.heap {cls:=.type "list",data:=.seq ys}))
 obtain⟨aH,σ',lv,a,b,c,_⟩:=qt.seen S' ⟨f.2.2,f.1,f.2.1,ys,⟨_,eO _ rfl⟩,hr⟩ h
 exact⟨aH,σ',lv,a,b,c⟩
theorem kL{l:LV}{lo hi:LV}{x y:Option Int}(hl:g7 σ l vs)(e1:oA lo x)(e2:oA hi y)(hz:vs.length≤10000)(h:eL (f7 vs x y) σ Q):GI X l (.uQ lo hi) σ Q ep:=fun _ φ s va vb hA ra rb=>by
 obtain⟨a,xs,rfl,hL,hr⟩:=hl.at hA ra
 simp only[lh,ky,kz,kA,kE,kF,kG,ke,kg,ix,iy,iA]at rb
 obtain⟨b,o,vl,vu,rfl,h1,h2,h3,h4,h5⟩:=rb
 refine⟨⟨_,_,hL.typeIs,slot_list_getitem.lookup⟩,?_⟩
 have hn:xs.size=vs.length:=by have:=hr.length;simpa using this
 refine aD (wpAny_getItem_list_slice hL ⟨o,(hA.rep.fz _ _ h1).1,h2,h3⟩ (e1.part h4) (e2.part h5) .none (by simp) ?_ (by rw[dH];exists hz,hn))
 have Ir:bg φ (f7 vs x y) (slicePick xs x y none).toList:=by
  rw[slicePick_plain];unfold f7;rw[hn];exact(hr.drop _).take _
 obtain⟨aH,σ',lv,a,b,c⟩:=eL.made (aV.refl hA) h Ir
 exact⟨aH,σ',lv,a,b,c⟩
theorem Kf{es:List Expr}{ai:Pos}(hp:dg es=true)(h:EA X ρ es σ (fun vs ah=>vs.length≤10000∧eL vs ah Q) ep):ET ep X ρ σ (.List es ai) Q:=fun hc φ s hA hF=>by
 have run:=uT h hc hA hF
 rw[ey]at run
 refine OM ?_
 rw[jm hp,show(es.map fun e=>(false,eval e X.aa))=(es.map fun e=>eval e X.aa).map fun t=>(false,t)by rw[ey];rfl,kI,ey]
 refine bG.gg run (fun vs aj aX ah as ax ra iX=>?_)
 obtain⟨hl,hn⟩:=iX
 refine aD (wpAny_newList ?_ (by rw[dH,ra.length];exists hl))
 obtain⟨aH,σ',lv,a,b,c⟩:=eL.made (ys:=vs.toArray) ax hn (by simpa using ra)
 exact⟨aH,σ',lv,a,b,c⟩
theorem Ha{es:List Expr}{ai:Pos}(hp:dg es=true)(h:EA X ρ es σ (fun vs ah=>vs.length≤10000∧Q (.tup vs) ah) ep):ET ep X ρ σ (.Tuple es k ai) Q:=fun hc φ s hA hF=>by
 have run:=uT h hc hA hF
 rw[ey]at run
 refine Lk ?_
 rw[jm hp,show(es.map fun e=>(false,eval e X.aa))=(es.map fun e=>eval e X.aa).map fun t=>(false,t)by rw[ey];rfl,kI,ey]
 refine bG.gg run (fun vs aj aX ah as ax ra iX=>?_)
 obtain⟨hl,hn⟩:=iX
 refine aD (wpAny_newTuple ?_ (by rw[dH,ra.length];exists hl))
 have aP:=ax.trans (aV.freeze (n:=aj.toks) (ob:={cls:=.type "tuple",data:=.seq vs.toArray}) ax.at_ (cF _ _) (bC aj.heap) (eO _ rfl))
 refine⟨_,ah,.tup as,aP,?_,hn⟩
 simp only[lh,ky,kz,kA,kE,kF,kG,ke,kg,ix,iy,iA]
 exact⟨_,_,vs.toArray,0,rfl,gZ ..,rfl,rfl,by simpa using ra.mono (i6 _ _ (ax.at_.fresh (bC aj.heap)).1)⟩
end
end Lake
end
section
namespace JL
theorem yc{aq:Program}{w:World}{A:Around}{E:bN}{s:aG}{l:Addr}{aw:Array Value}{k:Int}{t:Tok}{v:Value}{Q:Unit→aG→Prop}(hl:s.heap.PlainList l aw)
 (h0:0≤k)(pe:k<2 ^ 63)(hn:k<aw.size)
 (hQ:∀h',h'.PlainList l (aw.setIfInBounds k.toNat v)→Heap.SameBut l s.heap h'→Q () {s with heap:=h'}) :
  wpAny (model aq w) A (setItem (.ref l) (.int k t) v) Q E s:=by
 revert hl h0 pe hn hQ
 revert aq w A E s l aw k t v Q
 rintro aq w A E s l aw k t:(_)
 rintro v Q:(_)
 intro hl h0 pe hn hQ
 obtain⟨nn,ho⟩:=id hl
 have hT:=hl.isList.typeIs
 unfold setItem
 try with_reducible refine rx ?_
 first|refine aM (cA ?_)|skip
 refine aM (wpAny_sequenceKey hT %[|0] ?_)
 refine aM (wpAny_callSpecial?_slot (name:=Str.ofString "__setitem__") hT slot_list_setitem
  (wpAny_call_entry slot_list_setitem hT entry_list_setitem ?_ (args_list_setitem _ _ _)))
 show wpAny _ _ (Builtin.List.listSubscript? (.int k t) >>= _) _ _ s
 refine aM (wpAny_listSubscript_int (fitsIndex_of h0 pe) ?_)
 clear pe
 obtain⟨j,rfl⟩:=Int.eq_ofNat_of_zero_le h0
 have hj:j<aw.size:=by exists hn
 have tN:aw[j]?=some aw[j]:=Array.getElem?_eq_getElem hj
 show wpAny _ _ ((seqItemAt l j >>= fun r=>pure (r.map (j,·))) >>= _) _ _ s
 refine aM (aM (wpAny_seqItemAt ho rfl (cA ?_)))
 rw[tN]
 show wpAny _ _ (setSeqItemAt l j v >>= _) _ _ s
 refine aM (wpAny_setSeqItemAt ho rfl ?_)
 first
  |exact aM (cA (cA ⟨.none,rfl,cA (hQ _ ⟨_,IsL.update (n:=nn) ho _⟩ (lz ..))⟩))
  |exact cA ⟨.none,rfl,cA (hQ _ ⟨_,IsL.update (n:=nn) ho _⟩ (lz ..))⟩
theorem vj(b:Array UInt8)(t:Tok)(c:Array UInt8)(u:Tok):SeqAt.EqAt A s (.bytes b t) (.bytes c u) (b.toList==c.toList):=fun aq w E Q h=>by
 unfold eqBool
 refine rx ?_
 refine wpAny_ite_split (fun Ez=>?_) (fun _=>?_)
 ·have e:b=c:=by have:=eq_of_beq Ez;injection this
  subst e;exact aM (wpAny_rule (cA (by simpa using h)))
 exact aM (eq_bytes (wpAny_truthy_bool h))
end JL
namespace Lake
open JL
section
variable {X:Fx}{ρ:Loc}{σ:St}{Q:LV→St→Prop}{QU:St→Prop}{ep:EP}
theorem bg.size{xs:Array Value}(h:bg φ vs xs.toList):xs.size=vs.length:=by have:=h.length;simpa using this
theorem ny{o:LV}{T:String}{K:Value→Prop}(pa:PlainAttrs T)(slot:Slot T name id)(EJ:typeOf (.builtin id)=pure (.type "method_descriptor"))
 (hT:∀φ s va,At φ s σ X.c X.G→VR φ o va→s.TypeIs va T∧∀a,va=.ref a→∃ob,s.heap.get? a=some ob∧ob.dict=none)(h:K (.builtin id)):iR X o name σ K:=
 ⟨.builtin id,nr,fun φ s va hA ra pl Q' E q=>getMethod_builtin (hT φ s va hA ra).1 pa slot EJ (hT φ s va hA ra).2 q,h⟩
theorem rZ.Hb(hA:At φ s σ c G)(h:rZ σ v vs)(r:VR φ v w):s.TypeIs w "list"∧∀a,w=.ref a→∃ob,s.heap.get? a=some ob∧ob.dict=none:=by
 obtain⟨a,xs,rfl,⟨n,e⟩,_⟩:=h.plain hA r
 exact⟨⟨_,e,rfl⟩,fun b q=>by cases q;exact⟨_,e,rfl⟩⟩
theorem r6{K:Value→Prop}(hl:rZ σ v vs)(slot:Slot "list" name id)(EJ:typeOf (.builtin id)=pure (.type "method_descriptor"))(h:K (.builtin id)):iR X v name σ K:=
 ny F.plainAttrs_list slot EJ (fun _ _ _ hA ra=>hl.Hb hA ra) h
theorem aV.pJ(h:At φ s σ c G){Eh:List LV}{ys:Array Value}{n:Nat}(e:σ a=some (t,.list vs))(hs:Heap.SameBut a s.heap h')(hp:h'.PlainList a ys)(hr:bg φ Eh ys.toList) :
  aV G c c.pv s φ {s with heap:=h',toks:=n} φ (upd σ a (t,.list Eh)):=aV.set h e rfl rfl hs ⟨ys,hp,hr⟩
theorem A2{ep:EP}{X:Fx}{Q:LV→St→Prop}{σ:St}(e:σ a=some (t,.list vs))(hz:vs.length≤100000)(h:Q .none (upd σ a (t,.list (vs++[v])))):bV σ X ep Q [.ref a,v] (.builtin "list.append"):=fun _ φ s ws hA hv=>by
 obtain⟨w,r,rfl,h1,h2⟩:=hv.cons_inv
 obtain⟨w',r',rfl,h3,h4⟩:=h2.cons_inv
 have:=bg.bO.mp h4;subst this
 have h1:w=.ref a:=h1
 subst h1
 obtain⟨xs,hp,hr⟩:=hA.rep.ob _ _ _ e
 refine aD (wpAny_list_append_plain (hsz:=by rw[dH,hr.size];exists hz) hp fun h' vk dF=>?_)
 refine⟨φ,_,.none,aV.pJ (n:=s.toks) hA e dF vk ?_,rfl,h⟩
 rw[Array.toList_push];exact hr.append (bg.cZ.mpr ⟨h3,rfl⟩)
theorem bg.erase:∀ {vs:List LV} {ws:List Value} (k:Nat),bg φ vs ws→bg φ (vs.eraseIdx k) (ws.eraseIdx k)
 |[],_,_,h=>by simp only[Lo,Eg]at h;subst h;simp only[List.eraseIdx_nil,Lo,Eg]
 |_::_,_,0,h=>by obtain⟨w,r,rfl,_,h3⟩:=h.cons_inv;exact h3
 |_::_,_,k+1,h=>by
  obtain⟨w,r,rfl,h2,h3⟩:=h.cons_inv;exact bg.cZ.mpr ⟨h2,bg.erase k h3⟩
theorem nz(xs:Array Value)(k:Nat):(xs.eraseIdxIfInBounds k).toList=xs.toList.eraseIdx k:=by
 unfold Array.eraseIdxIfInBounds
 split
 ·simp
 rename_i h;simp at h;rw[List.eraseIdx_of_length_le (by simpa using h)]
theorem uw:∀ {a:Addr} {t:Tag} {vs:List LV} {k:Int} {v:LV} (e:σ a=some (t,.list vs)) (hz:vs.length≤100000) (h0:0≤k) (hk:vs[k.toNat]?=some v) (h:Q v (upd σ a (t,.list (vs.eraseIdx k.toNat)))),bV σ X ep Q [.ref a,.int k] (.builtin "list.pop"):=by
 revert X σ Q ep
 rintro X σ Q ep a t vs k v:(_)
 w_up
 intro _
 rintro φ s ws:(_)
 intro hA hv
 obtain⟨w,r,rfl,h1,h2⟩:=hv.cons_inv
 obtain⟨w',r',rfl,⟨u,rfl⟩,h4⟩:=h2.cons_inv
 have:=bg.bO.mp h4;subst this
 have h1:w=.ref a:=h1
 subst h1
 obtain⟨xs,⟨n,hp⟩,hr⟩:=hA.rep.ob _ _ _ e
 obtain⟨y,hy,ry⟩:=hr.get hk
 have tO:k.toNat<vs.length:=by
  rcases Nat.lt_or_ge k.toNat vs.length with z|z
  ·exact z
  nomatch(List.getElem?_eq_none z),hk
 have hsz:=hr.size
 have Md:¬k<0:=by exists h0
 have CF:k<xs.size:=by(have w0:=Ln.fT (k);revert tO hsz w0;room)
 refine aD (call_meets F.slot_list_pop ⟨_,hp,rfl⟩ F.entry_list_pop (F.args_list_pop_2 _ _) (MeetsSeq.list_pop_at a xs n k u k.toNat y (by simp[Builtin.List.listFitsIndex];exists hz,h0,hsz,CF) (by simp[seqIndex?,Md,h0,CF]) (by simpa using hy) (by rw[dH];exists hz,hsz)) ⟨hp,?_⟩)
 refine⟨φ,_,v,aV.pJ (n:=s.toks) hA e (lz ..) ⟨_,IsL.update (n:=n) hp _⟩ ?_,ry,h⟩
 rw[nz];exact hr.erase _
theorem Pa{ep:EP}{X:Fx}{σ:St}(e:σ a=some (t,.list vs)){QU:St→Prop}{k:Int}(h0:0≤k)(hk:k<vs.length)(hz:vs.length≤100000)(h:QU (upd σ a (t,.list (vs.set k.toNat v)))):O3 X setItem (.ref a) (.int k) v σ QU ep:=fun _ φ s va vb vd hA ra rb rd=>by
 have ra:va=.ref a:=ra
 subst ra
 obtain⟨u,rfl⟩:=rb
 obtain⟨xs,hp,hr⟩:=hA.rep.ob _ _ _ e
 refine aD (yc hp h0 %[hk|hz] (by rw[hr.size];exists hk) fun h' vk dF=>?_)
 refine⟨φ,_,(),aV.pJ (n:=s.toks) hA e dF vk ?_,trivial,h⟩
 rw[Array.toList_setIfInBounds];exact hr.set _ rd
noncomputable def OD(X:Fx)(a b:LV)(σ:St)(Q:St→Prop)(ep:EP):Prop:=
 dM X.n X.c→∀φ s va vb,At φ s σ X.c X.G→VR φ a va→VR φ b vb→TB GQ s s φ X.G X.c X.c.pv ep (delItem va vb) (fun _ σ'=>Q σ')
theorem Kg{k:Int}(e:σ a=some (t,.list vs))(h0:0≤k)(hk:k<vs.length)(hz:vs.length≤100000)(h:QU (upd σ a (t,.list (vs.eraseIdx k.toNat)))):OD X (.ref a) (.int k) σ QU ep:=fun _ φ s va vb hA ra rb=>by
 have ra:va=.ref a:=ra
 subst ra
 obtain⟨u,rfl⟩:=rb
 obtain⟨xs,hp,hr⟩:=hA.rep.ob _ _ _ e
 have hsz:=hr.size
 have Md:¬k<0:=by exists h0
 have CF:k<xs.size:=by exists hk,hsz
 refine aD (wpAny_delItem_plain (k:=k.toNat) hp (by simp[Builtin.List.listFitsIndex];exists h0,hk,hz) (by simp[seqIndex?,Md,h0,CF]) (fun h' vk dF=>?_) (by rw[dH];exists hz,hsz))
 refine⟨φ,_,(),aV.pJ (n:=s.toks) hA e dF vk ?_,trivial,h⟩
 rw[nz];exact hr.erase _
theorem Me{i:Expr}{ai:Pos}{ρ:Loc}{Q:LF→Loc→St→Prop}(h:ET ep X ρ σ o (fun ov ah=>ET ep X ρ ah i (fun iv ae=>OD X ov iv ae (fun bz=>Q .next ρ bz) ep))):ST ep σ ρ X Q (exec (.Delete [.Subscript o i p] ai) X.aa):=fun hc φ s hA hF=>by
 refine yS (aL (t:=deleteEach [.Subscript o i p] X.aa) (Q:=fun _ s'=>∃aH σ',aV X.G X.c X.c.pv s φ s' aH σ'∧Q .next ρ σ') (E:=cH X.G X.c X.c.pv s φ ep) ?_ (fun _ s' bR=>by obtain⟨aH,σ',S,q⟩:=bR;exact⟨aH,σ',ρ,.next,S.bP,hF.step S.ext S.bT,rfl,q⟩) fun _ _ e=>e.bP)
 show wpAny _ _ _ _ (do delete (.Subscript o i p) X.aa;deleteEach [] X.aa) _
 refine ak (ud (bG.gg (h hc φ s hA hF) (fun va aj aX ah a ax ra aN=>bG.iW ax (aN hc aX aj ax.at_ (hF.step ax.ext ax.bT)) (fun vb aO bp ae b aP rb bE=>?_))))
 exact bG.iW (ax.trans aP) (bE hc bp aO va vb aP.at_ (ra.mono aP.ext) rb) (fun _ bI fU bz _ cS _ q=>ao ⟨fU,bz,(ax.trans aP).trans cS,q⟩)
theorem nE(hl:g7 σ v vs)(hz:vs.length≤100000)(h:Q (.int vs.length) σ):bV σ X ep Q [v] (.builtin "len"):=fun _ φ s ws hA hv=>by
 obtain⟨w,r,rfl,h1,h2⟩:=hv.cons_inv
 have:=bg.bO.mp h2;subst this
 obtain⟨a,xs,rfl,hL,hr⟩:=hl.at hA h1
 refine aD (call_len_list hL (by rw[hr.size];exists hz) ?_)
 exact⟨φ,σ,.int vs.length,aV.toks hA _,⟨_,by rw[hr.size]⟩,h⟩
theorem QJ{b:bc}(hz:b.length≤100000)(h:Q (.int b.length) σ):bV σ X ep Q [.bX b] (.builtin "len"):=fun _ φ s ws hA hv=>by
 obtain⟨w,r,rfl,⟨t,rfl⟩,h2⟩:=hv.cons_inv
 have:=bg.bO.mp h2;subst this
 refine aD (len_bytes (by simp;exists hz) ?_)
 exact⟨φ,σ,.int b.length,aV.toks hA _,⟨s.toks+1,by simp⟩,h⟩
theorem g8{ep:EP}{X:Fx}{σ:St}{a:LV}(ha:rZ σ a vs){Q:LV→St→Prop}{b:LV}{ws:List LV}(hb:rZ σ b ws)(hz:vs.length+ws.length≤10000)(h:eL (vs++ws) σ Q):O2 σ b ep X Q (binaryOp .Add) a:=fun _ φ s va vb hA ra rb=>by
 obtain⟨l,xs,rfl,⟨n,hp⟩,hr⟩:=ha.plain hA ra
 obtain⟨m,ys,rfl,⟨n',vk⟩,Ir⟩:=hb.plain hA rb
 refine aD (P.add_list (n:=n) (n2:=n') hp vk ?_ (by rw[dH,hr.size,Ir.size];exists hz))
 obtain⟨aH,σ',lv,a,b,c⟩:=eL.made (ys:=xs++ys) (aV.refl hA) h (by rw[Array.toList_append];exact hr.append Ir)
 exact⟨aH,σ',lv,a,b,c⟩
noncomputable def ux(vs:List LV)(n:Nat):List LV:=(List.replicate n vs).flatten
theorem bg.rep(h:bg φ vs ws):∀n,bg φ (ux vs n) (List.replicate n ws).flatten
 |0=>rfl
 |n+1=>by
  unfold ux;rw[m8,m8,List.flatten_cons,List.flatten_cons];exact h.append (bg.rep h n)
theorem r7{a:LV}{x:Int}(ha:rZ σ a vs)(hz:vs.length≤1000)(hx:x≤1000)(h0:0≤x)(h:eL (ux vs x.toNat) σ Q):O2 σ (.int x) ep X Q (binaryOp .Mult) a:=fun _ φ s va vb hA ra rb=>by
 obtain⟨l,xs,rfl,⟨n,hp⟩,hr⟩:=ha.plain hA ra
 obtain⟨u,rfl⟩:=rb
 have hs:=hr.size
 have hb:xs.size*x.toNat≤1000*1000:=Nat.mul_le_mul %[hz|hs] (by(have w0:=Ln.fT (x);revert hx w0;room))
 refine aD (wpAny_binaryOp_repeat_ref (T:="list") (U:="int") %[|0] ⟨_,hp,rfl⟩ (fun s'=>typeIs_int s' x u) noFill_list_mul F.fills_int_mul F.slot_int_rmul repeat_list F.slot_int_index.lookup
  (call_meets F.slot_int_rmul (typeIs_int s x u) F.entry_int_rmul (F.args_int_rmul_2 _ _) (int___rmul___int_list x u l xs n)
   ⟨hp,rfl,⟨_,hp,rfl⟩,call_meets F.slot_list_mul ⟨_,hp,rfl⟩ F.entry_list_mul (F.args_list_mul_2 _ _)
    (AutoListH.list___mul___list_int_3 l xs n x u (by simp[Builtin.List.listFitsIndex];exists hx,h0) (Nat.not_lt.mpr (Nat.le_trans hb (by decide +kernel))) (by simp[Builtin.List.listTooLong,sizeLine];exists hb))
    ⟨hp,?_⟩⟩))
 obtain⟨aH,σ',lv,a,b,c⟩:=eL.made (ys:=List.foldl (fun x1 x2=>x1++x2) #[] (List.replicate (if xs.isEmpty=true then 0 else x.toNat) xs)) (aV.refl hA) h (by rw[listMul_foldl_if];exact hr.rep _)
 exact⟨aH,σ',lv,a,b,c⟩
noncomputable def xr(k:Nat)(G:Gd)(σ:St)(a b:LV)(r:Bool):Prop:=∀(A:Around) c φ s va vb,A.units≤k→At φ s σ c G→VR φ a va→VR φ b vb→SeqAt.EqAt A s va vb r
theorem lK(a b:Int):xr k G σ (.int a) (.int b) (a==b):=fun A c φ s va vb _ _ ra rb=>by
 obtain⟨t,rfl⟩:=ra
 obtain⟨u,rfl⟩:=rb
 exact SeqAt.EqAt.int_int a t b u
theorem Kh(a b:bc):xr k G σ (.bX a) (.bX b) (a==b):=fun A c φ s va vb _ _ ra rb=>by
 obtain⟨t,rfl⟩:=ra
 obtain⟨u,rfl⟩:=rb
 simpa using vj (A:=A) (s:=s) a.toArray t b.toArray u
noncomputable def my(k:Nat)(G:Gd)(σ:St):List LV→List LV→Bool→Prop
 |[],[],r=>r=true
 |a::as,b::bs,r=>∃bD cJ,xr k G σ a b bD∧my k G σ as bs cJ∧r=(bD&&cJ)
 |_,_,r=>r=false
theorem wH(hu:A.units≤k)(hA:At φ s σ c G):∀ {as bs:List LV} {vs ws:List Value} {r:Bool},as.length=bs.length→my k G σ as bs r→bg φ as vs→bg φ bs ws→
  ∃e:Nat→Bool,(∀j (h1:j<vs.length) (h2:j<ws.length),SeqAt.EqAt A s vs[j] ws[j] (e j))∧(List.range vs.length).all e=r:=by
 intro as
 induction as with
 |nil =>
  intro bs vs ws r hl h h1 h2;obtain rfl:bs=[]:=length_eq_zero_iff.mp hl.symm;have:=bg.bO.mp h1;subst this;have h:r=true:=h;exact⟨fun _=>true,fun j h1=>absurd h1 (Nat.not_lt_zero j),h.symm⟩
 |cons a as ih =>
  intro bs vs ws r hl h h1 h2;cases bs with
  |nil=>cases hl
  |cons b bs =>
  obtain⟨bD,cJ,e1,e2,hr⟩:=h;obtain⟨v,vs,rfl,h3,h4⟩:=h1.cons_inv;obtain⟨w,ws,rfl,h5,h6⟩:=h2.cons_inv;obtain⟨e,he,ha⟩:=ih (qh hl) e2 h4 h6;refine⟨fun j=>Nat.casesOn j bD e,fun j k1 k2=>?_,?_⟩
  ·cases j with
   |zero=>exact e1 A c φ s v w hu hA h3 h5
   |succ j=>exact he j (Nat.lt_of_succ_lt_succ k1) (Nat.lt_of_succ_lt_succ k2)
  rw[gH,List.range_succ_eq_map,List.all_cons,List.all_map,hr];exact congrArg (bD&&·) ha
theorem qu{a b:LV}{ws:List LV}{r:Bool}(ha:g7 σ a vs)(hb:g7 σ b ws)(hr:if vs.length=ws.length then my 9870 X.G σ vs ws r else r=false)(h:Q (.bool r) σ):O2 σ b ep X Q (compareOp .Eq) a:=fun hc φ s va vb hA ra rb=>by
 obtain⟨l,xs,rfl,hL,h1⟩:=ha.at hA ra
 obtain⟨m,ys,rfl,hM,h2⟩:=hb.at hA rb
 have hu:=hc.units
 have fin:TB VR s s φ X.G X.c X.c.pv ep (pure (.bool r)) Q:=ao ⟨φ,σ,.bool r,.refl hA,rfl,h⟩
 by_cases z:vs.length=ws.length
 ·rw[bh z]at hr;obtain⟨e,he,qm⟩:=wH (A:=X.c.A.in1) (by show X.c.A.units+1≤9870;exists hu) hA z hr h1 h2;refine aD (SeqAt.eq_listAt (e:=e) hL hM (by rw[h1.size,h2.size,z]) (by show X.c.A.units<9900;exists hu) (fun j k1 k2=>by have q:=he j (by simpa using k1) (by simpa using k2);simp only[Array.getElem_toList]at q;exact q) ?_);have:(List.range xs.size).all e=r:=by simpa using qm
  rw[this];exact⟨φ,σ,.bool r,.refl hA,rfl,h⟩
 rw[aY z]at hr
 refine aD (SeqAt.eq_list_lengthsAt hL hM (by rw[h1.size,h2.size];simpa using z) (by show X.c.A.units<9900;exists hu) ?_)
 subst hr;exact⟨φ,σ,.bool false,.refl hA,rfl,h⟩
theorem lL{a b:LV}{ws:List LV}{r:Bool}(ha:g7 σ a vs)(hb:g7 σ b ws)(hr:if vs.length=ws.length then my 9870 X.G σ vs ws r else r=false)(h:Q (.bool (!r)) σ):O2 σ b ep X Q (compareOp .NotEq) a:=fun hc φ s va vb hA ra rb=>by
 obtain⟨l,xs,rfl,hL,h1⟩:=ha.at hA ra
 obtain⟨m,ys,rfl,hM,h2⟩:=hb.at hA rb
 have hu:=hc.units
 by_cases z:vs.length=ws.length
 ·rw[bh z]at hr;obtain⟨e,he,qm⟩:=wH (A:=X.c.A.in1) (by show X.c.A.units+1≤9870;exists hu) hA z hr h1 h2;refine aD (SeqAt.RcNeAt.lists (e:=e) hL hM (by rw[h1.size,h2.size,z]) (by show X.c.A.units<9900;exists hu) (fun j k1 k2=>by have q:=he j (by simpa using k1) (by simpa using k2);simp only[Array.getElem_toList]at q;exact q) _ _ _ _ ?_);have:(List.range xs.size).all e=r:=by simpa using qm
  rw[this];exact⟨φ,σ,.bool (!r),.refl hA,rfl,h⟩
 rw[aY z]at hr
 refine aD (SeqAt.RcNeAt.lists_lengths hL hM (by rw[h1.size,h2.size];simpa using z) (by show X.c.A.units<9900;exists hu) _ _ _ _ ?_)
 subst hr;exact⟨φ,σ,.bool true,.refl hA,rfl,h⟩
noncomputable def i8(ns:List Int):List LV:=ns.map LV.int
noncomputable def jD(bs:List bc):List LV:=bs.map LV.bX
theorem EK:∀(ns ms:List Int),ns.length=ms.length→my k G σ (i8 ns) (i8 ms) (ns==ms):=by
 intro ns
 induction ns with
 |nil=>intro ms h;rw[length_eq_zero_iff.mp h.symm];rfl
 |cons n ns ih =>
  intro ms h;cases ms with
  |nil=>cases h
  |cons m ms=>exact⟨n==m,ns==ms,lK n m,ih ms (qh h),List.cons_beq_cons⟩
theorem EL:∀(ns ms:List bc),ns.length=ms.length→my k G σ (jD ns) (jD ms) (ns==ms):=by
 intro ns
 induction ns with
 |nil=>intro ms h;rw[length_eq_zero_iff.mp h.symm];rfl
 |cons n ns ih =>
  intro ms h;cases ms with
  |nil=>cases h
  |cons m ms=>exact⟨n==m,ns==ms,Kh n m,ih ms (qh h),List.cons_beq_cons⟩
theorem qv(ns ms:List Int):if(i8 ns).length=(i8 ms).length then my k G σ (i8 ns) (i8 ms) (ns==ms)else(ns==ms)=false:=by
 by_cases z:ns.length=ms.length
 ·rw[bh (by unfold i8;rw[bB,bB];exact z)];exact EK ns ms z
 rw[aY (by unfold i8;rw[bB,bB];exact z)]
 exact beq_false_of_ne fun h=>z (h▸rfl)
theorem zr(ns ms:List bc):if(jD ns).length=(jD ms).length then my k G σ (jD ns) (jD ms) (ns==ms)else(ns==ms)=false:=by
 by_cases z:ns.length=ms.length
 ·rw[bh (by unfold jD;rw[bB,bB];exact z)];exact EL ns ms z
 rw[aY (by unfold jD;rw[bB,bB];exact z)]
 exact beq_false_of_ne fun h=>z (h▸rfl)
theorem Hc:∀ {ns ms:List Int} {ws:List Value},bg φ (i8 ns) ws→bg φ (i8 ms) ws→ns=ms:=by
 intro ns
 induction ns with
 |nil =>
  intro ms ws h h';cases ms with
  |nil=>rfl
  |cons m ms =>
   have:=bg.bO.mp h;subst this;obtain⟨_,_,e,_⟩:=bg.cons_inv h';cases e
 |cons n ns ih =>
  intro ms ws h h';cases ms with
  |nil =>
   have:=bg.bO.mp h';subst this;obtain⟨_,_,e,_⟩:=bg.cons_inv h;cases e
  |cons m ms =>
  obtain⟨w,r,rfl,h1,h2⟩:=bg.cons_inv h;obtain⟨h3,h4⟩:=bg.cZ.mp h';obtain⟨t,rfl⟩:=h1;obtain⟨u,e⟩:=h3;cases e;rw[ih h2 h4]
theorem Hd{a b:LV}{ms:List Int}(ha:g7 σ a (i8 ns))(hb:g7 σ b (i8 ms)):xr 9870 G σ a b (ns==ms):=fun A c φ s va vb hu hA ra rb=>by
 obtain⟨l,xs,rfl,hL,h1⟩:=ha.at hA ra
 obtain⟨m,ys,rfl,hM,h2⟩:=hb.at hA rb
 by_cases z:l=m
 ·subst z
  have e:xs=ys:=by
   obtain⟨o,ho,_,n,hd⟩:=hL;obtain⟨o',eD,_,n',dJ⟩:=hM;nomatch ho,eD;rw[hd]at dJ;cases dJ;rfl
  subst e;have:ns=ms:=Hc h1 h2;subst this;rw[beq_self_eq_true];exact SeqAt.EqAt.same _
 refine SeqAt.EqAt.of_refs z ?_
 have hr:=qv (k:=9880) (σ:=σ) (G:=G) ns ms
 by_cases y:(i8 ns).length=(i8 ms).length
 ·rw[bh y]at hr;obtain⟨e,he,qm⟩:=wH (A:=A.in1) (by show A.units+1≤9880;exists hu) hA y hr h1 h2;have q:=SeqAt.RcAt.lists (A:=A) (e:=e) hL hM (by rw[h1.size,h2.size,y]) (by show A.units<9900;exists hu) (fun j k1 k2=>by have q:=he j (by simpa using k1) (by simpa using k2);simp only[Array.getElem_toList]at q;exact q);have:(List.range xs.size).all e=(ns==ms):=by simpa using qm
  rwa [this]at q
 rw[aY y]at hr
 rw[hr]
 exact SeqAt.RcAt.lists_lengths hL hM (by rw[h1.size,h2.size];simpa using y) (by show A.units<9900;exists hu)
theorem Bt{a b:LV}(ha:g7 σ a vs)(hb:g7 σ b []):xr 9870 G σ a b vs.isEmpty:=fun A c φ s va vb hu hA ra rb=>by
 obtain⟨l,xs,rfl,hL,h1⟩:=ha.at hA ra
 obtain⟨m,ys,rfl,hM,h2⟩:=hb.at hA rb
 have rK:ys.size=0:=h2.size
 by_cases z:l=m
 ·subst z
  have e:xs=ys:=by
   obtain⟨o,ho,_,n,hd⟩:=hL;obtain⟨o',eD,_,n',dJ⟩:=hM;nomatch ho,eD;rw[hd]at dJ;cases dJ;rfl
  subst e;have:vs.length=0:=by rw[← h1.size];exact rK
  have:vs=[]:=length_eq_zero_iff.mp this;subst this;exact SeqAt.EqAt.same _
 refine SeqAt.EqAt.of_refs z ?_
 cases vs with
 |nil =>
  have EM:xs.size=0:=h1.size;have q:=SeqAt.RcAt.lists (A:=A) (s:=s) (e:=fun _=>true) hL hM (by rw[EM,rK]) (by show A.units<9900;exists hu) (fun j k1=>by omega);simpa[EM]using q
 |cons v r=>exact SeqAt.RcAt.lists_lengths hL hM (by rw[h1.size,rK];rfl) (by show A.units<9900;exists hu)
end
end Lake
end
section
namespace Lake
structure QK(c:Ctx)(aa:Env)(sc:Scope)(cl:List (Str×Addr))(own:List Addr):Prop where
 scope:aa.scope=sc
 cells:aa.cells=cl
 own:c.own=own
 bA:∃outer L,c.bA=aa::outer∧aa.frame=some L
theorem CallT.QM{n:Nat}{f:Addr}{fd:FuncData}{sc:Scope}
 (hK:G.K.lookup f=some fo)(hd:fo.data=.func fd)(gY:fd.body=.stmts aZ)(Mf:fd.scope=sc)(gc:codeIn G.K fd.code fd.qualname=true)
 (dB:∀(vs:List Value),vs.length=az.length→bindArgs fd ⟨vs,[]⟩=pure (names.zip vs))(hlen:names.length=az.length)(fB:names.Nodup)
 (jg:(sc.names.all fun x=>!(x.2==.cell))=true)(lG:(names.all fun x=>sc.names.lookup x==some .local)=true)
 (uY:fd.globals=mainGlobals)(uZ:fd.builtins=builtinsNs)(jX:fd.closure=[])
 (h:∀(c:Ctx) (aa:Env),(∃own,QK c aa sc [] own)→ST ep σ (fq names az) ⟨G,c,aa,n⟩ (fun lf _ σ'=>Q lf.val σ') (execs aZ aa))
 (ma:autoParam (sc.isCoroutine=false) Jm.a0)(i5:autoParam (sc.isGenerator=false) Jm.a0)(hk:autoParam (sc.kind=.function) Jm.a0):CallT (n+1) ⟨false,ep.Q⟩ (.ref f) G σ Q az:=by
 subst Mf
 refine CallT.fn hK hd gY gc (fun s vs _ hl=>BindsTo.of_eq (dB vs hl)) hlen fB (fun x hx=>?_) (fun x hx=>?_) uY uZ jX (fun c L=>h _ _ ⟨[L],⟨rfl,?_,rfl,_,L,rfl,rfl⟩⟩) ma i5 hk
 ·have:=all_eq_true.mp jg x hx;simpa using this
 ·exact eq_of_beq (all_eq_true.mp lG x hx)
 exact jX
theorem CallT.SR{n:Nat}{f:Addr}{fd:FuncData}{sc:Scope}
 (hK:G.K.lookup f=some fo)(hd:fo.data=.func fd)(gY:fd.body=.stmts aZ)(Mf:fd.scope=sc)(gc:codeIn G.K fd.code fd.qualname=true)
 (dB:∀(vs:List Value),vs.length=az.length→bindArgs fd ⟨vs,[]⟩=pure (names.zip vs))(hlen:names.length=az.length)(fB:names.Nodup)
 (ir:(names.all fun y=>sc.names.lookup y==some .local||sc.names.lookup y==some .cell)=true)
 (rR:((cellsFrom 0 sc.names []).map (·.1)).Nodup)(uY:fd.globals=mainGlobals)(uZ:fd.builtins=builtinsNs)(jX:fd.closure=[])
 (h:∀(c:Ctx) (aa:Env) (L:Addr),QK c aa sc (cellsFrom (L+1) sc.names []) (L::(cellsFrom (L+1) sc.names []).map (·.2))→ST ep σ (fq names az) ⟨G,c,aa,n⟩ (fun lf _ σ'=>Q lf.val σ') (execs aZ aa))
 (ma:autoParam (sc.isCoroutine=false) Jm.a0)(i5:autoParam (sc.isGenerator=false) Jm.a0)(hk:autoParam (sc.kind=.function) Jm.a0):CallT (n+1) ⟨false,ep.Q⟩ (.ref f) G σ Q az:=by
 subst Mf
 exact CallT.QE hK hd gY gc dB hlen fB ir rR uY uZ jX (fun c L=>h _ _ L ⟨rfl,rfl,rfl,_,L,rfl,rfl⟩) ma i5 hk
section
variable {Ky:Type}[DecidableEq Ky]{φ:FZ}
noncomputable def c6(es:List (Ky×LV))(k:Ky):Option LV:=(es.find? fun e=>e.1=k).map (·.2)
noncomputable def f9(es:List (Ky×LV))(k:Ky)(v:LV):List (Ky×LV):=if es.any (fun e=>e.1=k)then es.map (fun e=>if e.1=k then(e.1,v)else e)else es++[(k,v)]
noncomputable def wI(es:List (Ky×LV))(k:Ky):List (Ky×LV):=es.filter fun e=>decide (e.1≠k)
theorem d9.find(k:Ky):∀ {es:List (Ky×LV)} {bf:List (Ky×Value)},d9 φ es bf→(match c6 es k with|some v=>∃w,valueAt bf k=some w∧VR φ v w|none=>valueAt bf k=none):=by
 intro ll
 induction ll with
 |nil =>
  rintro _ e;have e:_=_:=e;subst e;rfl
 |cons f fs ih =>
  rintro _ ⟨w,r,e,h1,h2⟩:_;subst e;have ih:=ih h2;unfold c6 valueAt at *;by_cases z:f.1=k
  ·simp only[List.find?_cons,z,decide_true,Option.map_some];exact⟨w,rfl,h1⟩
  simp only[List.find?_cons,z,decide_false];exact ih
theorem d9.some{k:Ky}{es:List (Ky×LV)}{bf:List (Ky×Value)}(h:d9 φ es bf)(e:c6 es k=some v):∃w,valueAt bf k=some w∧VR φ v w:=by have:=h.find k;rw[e]at this;exact this
theorem d9.none{k:Ky}{es:List (Ky×LV)}{bf:List (Ky×Value)}(h:d9 φ es bf)(e:c6 es k=none):valueAt bf k=none:=by have:=h.find k;rw[e]at this;exact this
theorem d9.isSome{k:Ky}{es:List (Ky×LV)}{bf:List (Ky×Value)}(h:d9 φ es bf):(valueAt bf k).isSome=(c6 es k).isSome:=by
 have:=h.find k
 cases e:c6 es k with
 |none=>rw[e]at this;rw[this];rfl
 |some v=>rw[e]at this;obtain⟨w,h1,_⟩:=this;rw[h1];rfl
theorem d9.any(k:Ky):∀ {es:List (Ky×LV)} {bf:List (Ky×Value)},d9 φ es bf→bf.any (fun e=>e.1=k)=es.any (fun e=>e.1=k):=by
 intro ll
 induction ll with
 |nil =>
  rintro _ e;have e:_=_:=e;subst e;rfl
 |cons f fs ih =>
  rintro _ ⟨w,r,e,h1,h2⟩:_;subst e;simp only[any_cons,ih h2]
theorem d9.Mg{k:Ky}(hv:VR φ v w):∀ {es:List (Ky×LV)} {bf:List (Ky×Value)},d9 φ es bf→d9 φ (es.map fun e=>if e.1=k then(e.1,v)else e) (bf.map fun e=>if e.1=k then(e.1,w)else e):=by
 intro ll
 induction ll with
 |nil =>
  rintro _ e;have e:_=_:=e;subst e;rfl
 |cons f fs ih =>
  rintro _ ⟨u,r,e,h1,h2⟩:_;subst e;simp only[ew];by_cases z:f.1=k
  ·rw[bh z,bh z];exact⟨w,_,rfl,hv,ih h2⟩
  rw[aY z,aY z];exact⟨u,_,rfl,h1,ih h2⟩
theorem d9.snoc{k:Ky}(hv:VR φ v w):∀ {es:List (Ky×LV)} {bf:List (Ky×Value)},d9 φ es bf→d9 φ (es++[(k,v)]) (bf++[(k,w)]):=by
 intro ll
 induction ll with
 |nil =>
  rintro _ e;have e:_=_:=e;subst e;exact⟨w,[],rfl,hv,rfl⟩
 |cons f fs ih =>
  rintro _ ⟨u,r,e,h1,h2⟩:_;subst e;exact⟨u,_,rfl,h1,ih h2⟩
theorem d9.put{k:Ky}{es:List (Ky×LV)}{bf:List (Ky×Value)}(h:d9 φ es bf)(hv:VR φ v w):d9 φ (f9 es k v) (stored bf k w):=by
 unfold f9 stored
 rw[h.any k]
 split
 ·exact h.Mg hv
 exact h.snoc hv
theorem d9.del{k:Ky}:∀ {es:List (Ky×LV)} {bf:List (Ky×Value)},d9 φ es bf→d9 φ (wI es k) (without bf k):=by
 intro ll
 induction ll with
 |nil =>
  rintro _ e;have e:_=_:=e;subst e;rfl
 |cons f fs ih =>
  rintro _ ⟨u,r,e,h1,h2⟩:_;subst e;unfold wI without;by_cases z:f.1=k
  ·simp only[oU,ne_eq,z,not_true,decide_false,qf,if_false];exact ih h2
  simp only[oU,ne_eq,z,not_false_eq_true,decide_true,if_true];exact⟨u,_,rfl,h1,ih h2⟩
end
section
variable {X:Fx}{ρ:Loc}{σ:St}{Q:LV→St→Prop}{QU:St→Prop}{ep:EP}
theorem ez(h:At φ s σ c G)(e:σ a=some (t,.dict es dp)):∃bf,s.heap.DictAt (intKind G.pg G.w) a bf dp∧d9 φ es bf:=h.rep.ob _ _ _ e
theorem iJ{w:World}(k:Int)(t:Tok):(intKind aq w).is k (.int k t)=true:=by show Value.isInt k (.int k t)=true;simp[Value.isInt]
theorem jq{ep:EP}{X:Fx}{σ:St}{k:Int}(e:σ a=some (t,.dict es dp)){Q:LV→St→Prop}(hk:c6 es k=some v)(h:Q v σ):GI X (.ref a) (.int k) σ Q ep:=fun _ φ s va vb hA ra rb=>by
 have ra:va=.ref a:=ra
 subst ra
 obtain⟨u,rfl⟩:=rb
 obtain⟨bf,hd,hr⟩:=ez hA e
 obtain⟨w,hw,ml⟩:=hr.some hk
 refine⟨⟨_,_,hd.dictOf.typeIs,slot_dict_getitem.lookup⟩,?_⟩
 exact aD (wpAny_getItem_of (iJ k u) hd.dictOf.mapOf hw ⟨φ,σ,v,aV.tok hA,ml,h⟩)
theorem SS{ep:EP}{k:Str}{es:List (Str×LV)}{X:Fx}{σ:St}(e:σ a=some (t,.eC es))(hk:c6 es k=some v){Q:LV→St→Prop}(h:Q v σ):GI X (.ref a) (.str k) σ Q ep:=fun _ φ s va vb hA ra rb=>by
 have ra:va=.ref a:=ra
 subst ra
 obtain⟨u,rfl⟩:=rb
 obtain⟨bf,hd,hr⟩:=hA.rep.ob _ _ _ e
 obtain⟨w,hw,ml⟩:=hr.some hk
 refine⟨⟨_,_,hd.typeIs,slot_dict_getitem.lookup⟩,?_⟩
 exact aD (wpAny_getItem_of (strKind_is X.G.pg X.G.w k u) hd.mapOf hw ⟨φ,σ,v,aV.tok hA,ml,h⟩)
theorem aV.Bu(h:At φ s σ c G){bf:List (Int×Value)}{n:Nat}(e:σ a=some (t,.dict es dp))(hs:Heap.SameBut a s.heap h')(hp:h'.DictOf (intKind G.pg G.w) a bf)(hr:d9 φ mh bf) :
  ∃dp',aV G c c.pv s φ {s with heap:=h',toks:=n} φ (upd σ a (t,.dict mh dp')):=by
 obtain⟨dp',hd⟩:=hp.dictAt
 exact⟨dp',aV.set h e rfl rfl hs ⟨bf,hd,hr⟩⟩
theorem CH{ep:EP}{X:Fx}{QU:St→Prop}{k:Int}{σ:St}(e:σ a=some (t,.dict es dp))(hz:es.length≤10000)(h:∀dp',QU (upd σ a (t,.dict (f9 es k v) dp'))):O3 X setItem (.ref a) (.int k) v σ QU ep:=fun _ φ s va vb vd hA ra rb rd=>by
 have ra:va=.ref a:=ra
 subst ra
 obtain⟨u,rfl⟩:=rb
 obtain⟨bf,hd,hr⟩:=ez hA e
 refine aD (wpAny_setItem_pairs (hsz:=by rw[dH,hr.length];exists hz) (iJ k u) hd.dictOf fun h' dJ dF=>?_)
 obtain⟨dp',S⟩:=aV.Bu (n:=s.toks+1) hA e dF dJ (hr.put rd)
 exact⟨φ,_,(),S,trivial,h dp'⟩
theorem Ki{k:Int}(e:σ a=some (t,.dict es dp))(hz:es.length≤10000)(hk:(c6 es k).isSome=true)(h:∀dp',QU (upd σ a (t,.dict (wI es k) dp'))):OD X (.ref a) (.int k) σ QU ep:=fun _ φ s va vb hA ra rb=>by
 have ra:va=.ref a:=ra
 subst ra
 obtain⟨u,rfl⟩:=rb
 obtain⟨bf,hd,hr⟩:=ez hA e
 refine rF hd.dictOf.typeIs %[|0] F.slot_dict_delitem (aD (call_meetsIn F.slot_dict_delitem hd.dictOf.typeIs F.entry_dict_delitem (F.args_dict_delitem_2 _ _) (meets_dict_delitem_pairs _ a (iJ k u)) ⟨bf,hd.dictOf,by rw[dH,hr.length];(exists hz),by rw[hr.isSome];exact hk,fun h' dJ dF=>?_⟩))
 obtain⟨dp',S⟩:=aV.Bu (n:=s.toks+1) hA e dF dJ hr.del
 exact⟨φ,_,(),S,trivial,h dp'⟩
theorem zt{k:Int}(e:σ a=some (t,.dict es dp))(h:Q (.bool (c6 es k).isSome) σ):O2 σ (.ref a) ep X Q (compareOp .In) (.int k):=fun _ φ s va vb hA ra rb=>by
 have rb:vb=.ref a:=rb
 subst rb
 obtain⟨u,rfl⟩:=ra
 obtain⟨bf,hd,hr⟩:=ez hA e
 refine aD (wpAny_in_of (iJ k u) (hA.rep.gC e) hd.dictOf.mapOf ?_)
 exact⟨φ,σ,.bool (c6 es k).isSome,aV.tok hA,by rw[hr.isSome];rfl,h⟩
theorem A3{k:Int}(e:σ a=some (t,.dict es dp))(h:Q (.bool (!(c6 es k).isSome)) σ):O2 σ (.ref a) ep X Q (compareOp .NotIn) (.int k):=fun _ φ s va vb hA ra rb=>by
 have rb:vb=.ref a:=rb
 subst rb
 obtain⟨u,rfl⟩:=ra
 obtain⟨bf,hd,hr⟩:=ez hA e
 refine aD (wpAny_notIn_of (iJ k u) (hA.rep.gC e) hd.dictOf.mapOf ?_)
 exact⟨φ,σ,.bool (!(c6 es k).isSome),aV.tok hA,by rw[hr.isSome];rfl,h⟩
theorem r8:∀ {a:Addr} {t:Tag} {es:List (Int×LV)} {dp:Nat} {k:Int} (e:σ a=some (t,.dict es dp)) (h:Q ((c6 es k).getD .none) σ),bV σ X ep Q [.ref a,.int k] (.builtin "dict.get"):=by
 revert X σ Q ep
 rintro X σ Q ep a t es dp k:(_)
 w_up
 intro _
 rintro φ s ws:(_)
 intro hA hv
 obtain⟨w,r,rfl,h1,h2⟩:=hv.cons_inv
 obtain⟨w',r',rfl,⟨u,rfl⟩,h4⟩:=h2.cons_inv
 have:=bg.bO.mp h4;subst this
 have h1:w=.ref a:=h1
 subst h1
 obtain⟨bf,hd,hr⟩:=ez hA e
 refine aD (call_meetsIn F.slot_dict_get hd.dictOf.typeIs F.entry_dict_get (F.args_dict_get_2 _ _) (meets_dict_get _ a (iJ k u) (hA.rep.gC e)) ⟨_,hd.dictOf.mapOf,?_⟩)
 refine⟨φ,σ,(c6 es k).getD .none,aV.tok hA,?_,h⟩
 cases e':c6 es k with
 |none=>rw[hr.none e'];rfl
 |some v=>obtain⟨w,hw,ml⟩:=hr.some e';rw[hw];exact ml
theorem yd:∀ {a:Addr} {t:Tag} {es:List (Int×LV)} {dp:Nat} {k:Int} {d:LV} (e:σ a=some (t,.dict es dp)) (h:Q ((c6 es k).getD d) σ),bV σ X ep Q [.ref a,.int k,d] (.builtin "dict.get"):=by
 revert X σ Q ep
 rintro X σ Q ep a t es dp k:(_)
 rintro d:(_)
 w_up
 intro _
 rintro φ s ws:(_)
 intro hA hv
 obtain⟨w,r,rfl,h1,h2⟩:=hv.cons_inv
 obtain⟨w',r',rfl,⟨u,rfl⟩,h4⟩:=h2.cons_inv
 obtain⟨Vm,Vn,rfl,h5,h6⟩:=h4.cons_inv
 have:=bg.bO.mp h6;subst this
 have h1:w=.ref a:=h1
 subst h1
 obtain⟨bf,hd,hr⟩:=ez hA e
 refine aD (call_meetsIn F.slot_dict_get hd.dictOf.typeIs F.entry_dict_get (F.args_dict_get_3 _ _ _) (meets_dict_get_default _ a (iJ k u) (hA.rep.gC e) Vm) ⟨_,hd.dictOf.mapOf,?_⟩)
 refine⟨φ,σ,(c6 es k).getD d,aV.tok hA,?_,h⟩
 cases e':c6 es k with
 |none=>rw[hr.none e'];exact h5
 |some v=>obtain⟨w,hw,ml⟩:=hr.some e';rw[hw];exact ml
theorem xt{K:Value→Prop}(e:σ a=some (t,.dict es dp))(slot:Slot "dict" name id)(EJ:typeOf (.builtin id)=pure (.type "method_descriptor"))(h:K (.builtin id)):iR X (.ref a) name σ K:=
 ny F.plainAttrs_dict slot EJ (fun φ s va hA ra=>by
  have ra:va=.ref a:=ra;subst ra;obtain⟨bf,hd,_⟩:=ez hA e;exact⟨hd.dictOf.typeIs,hd.dictOf.mapOf.noDict⟩) h
theorem iS{ai:Pos}(h:∃t,∀D dp,σ D=none→Q (.ref D) (upd σ D (t,.dict [] dp))):ET ep X ρ σ (.Dict [] [] ai) Q:=fun _ φ s hA hF=>by
 rw[PySem.eval_Dict_empty]
 obtain⟨t,h⟩:=h
 refine ak (dW ?_)
 refine aD (rD ?_)
 have hd:(s.heap.push {cls:=.type "dict",data:=.dict #[]}).DictOf (intKind X.G.pg X.G.w) s.heap.objs.size []:=Heap.DictOf.new s.heap
 obtain⟨dp,hd⟩:=hd.dictAt
 have f:=hA.fresh (bC s.heap)
 exact⟨φ,_,.ref s.heap.objs.size,aV.add (n:=s.toks) (t:=t) (o:=.dict [] dp) hA (cF _ _) (bC s.heap) ⟨[],hd,rfl⟩,rfl,h _ dp f.2.1⟩
theorem qY(e:σ a=some (t,.dict es dp))(hz:es.length≤10000)(h:∀D dp',σ D=none→Q (.ref D) (upd σ D (t',.dict es dp'))):bV σ X ep Q [.ref a] (.type "dict"):=fun _ φ s ws hA hv=>by
 obtain⟨w,r,rfl,h1,h2⟩:=hv.cons_inv
 have:=bg.bO.mp h2;subst this
 have h1:w=.ref a:=h1
 subst h1
 obtain⟨bf,hd,hr⟩:=ez hA e
 refine aD (kt_call_dict (hA.rep.gC e) hd.dictOf (by rw[dH,hr.length];exists hz) fun h' dJ dF=>?_)
 obtain⟨dp',dJ⟩:=dJ.dictAt
 have f:=hA.fresh (bC s.heap)
 have k:∀b o,s.heap.get? b=some o→h'.get? b=some o:=fun b o q=>dF.extBut b o (by first|exact Lake.cR bC q|exact Lake.cD bC q|exact Lake.iI bC q rfl|exact Lake.fG bC q rfl|exact(fun z=>by rw[z,bC]at q;cases q)) (cF _ _ b o q)
 exact⟨φ,_,.ref s.heap.objs.size,aV.add (n:=s.toks) (t:=t') (o:=.dict es dp') hA k (bC s.heap) ⟨bf,dJ,hr⟩,rfl,h _ dp' f.2.1⟩
noncomputable def iE(es:List (Int×LV)):List LV:=es.map fun e=>.tup [.int e.1,e.2]
theorem qw(e:σ a=some (t,.dict es dp))(h:Q (.view a) σ):bV σ X ep Q [.ref a] (.builtin "dict.items"):=fun _ φ s ws hA hv=>by
 obtain⟨w,r,rfl,h1,h2⟩:=hv.cons_inv
 have:=bg.bO.mp h2;subst this
 have h1:w=.ref a:=h1
 subst h1
 obtain⟨bf,hd,hr⟩:=ez hA e
 refine aD (call_meetsIn F.slot_dict_items hd.dictOf.typeIs F.entry_dict_items (F.args_dict_items_1 _) (meets_dict_items (intKind X.G.pg X.G.w) a (hA.rep.gC e)) ⟨⟨bf,hd.dictOf⟩,?_⟩)
 have S:=aV.freeze (n:=s.toks) (ob:={cls:=.type "dict_items",data:=.fields #[.ref a]}) hA (cF _ _) (bC s.heap) (eO _ rfl)
 refine⟨_,σ,.view a,S,?_,h⟩
 simp only[lh,ky,kz,kA,kE,kF,kG,ke,kg,ix,iy,iA]
 exact⟨_,rfl,gZ ..⟩
noncomputable def mO(φ:FZ)(h:Heap)(S:List Addr):FZ:=fun b=>if b∈S then h.get? b else φ b
theorem xu{h:Heap}{S:List Addr}(hS:∀b∈S,φ b=none):Ext φ (mO φ h S):=fun b o e=>by
 unfold mO
 by_cases z:b∈S
 ·nomatch(hS b z),e
 rw[aY z];exact e
theorem At.ER(A:At φ s σ c G){S:List Addr}(hS:∀b∈S,b∉c.pv∧φ b=none∧σ b=none):At (mO φ s.heap S) s σ c G:=by
 have x:=xu (h:=s.heap) fun b hb=>(hS b hb).2.1
 refine⟨⟨⟨A.rep.base.ok,fun b o e=>x _ _ (A.rep.base.b b o e)⟩,fun b o e=>?_,fun a t o e=>(A.rep.ob a t o e).mono x⟩,fun b hb=>⟨?_,(A.pv b hb).2⟩,A.bA,A.gens⟩
 ·unfold mO at e;by_cases z:b∈S
  ·rw[bh z]at e;exact⟨e,(hS b z).2.2⟩
  rw[aY z]at e;exact A.rep.fz b o e
 unfold mO
 rw[aY (fun z=>(hS b z).1 hb)];exact(A.pv b hb).1
theorem ES{w:World}:∀ {es:List (Int×LV)} {bf:List (Int×Value)} {as:List Addr},d9 φ es bf→as.length=bf.length→
  (∀(j:Nat) (a:Addr),as[j]?=some a→∃key k x,bf[j]?=some (k,x)∧(intKind aq w).is k key=true∧φ a=some {cls:=.type "tuple",data:=.seq #[key,x]})→bg φ (iE es) (as.map Value.ref):=by
 intro es
 induction es with
 |nil =>
  intro _ as e hl _;have e:_=_:=e;subst e;have:as=[]:=length_eq_zero_iff.mp hl;subst this;rfl
 |cons f fs ih =>
  intro _ as h hl hp;obtain⟨w,r,e,h1,h2⟩:=h;subst e;cases as with
  |nil=>cases hl
  |cons a as =>
   obtain⟨key,k,x,e1,e2,e3⟩:=hp 0 a rfl;cases e1;obtain⟨u,rfl⟩:=Value.isInt_shape e2;exact bg.cZ.mpr ⟨⟨a,_,_,_,rfl,e3,rfl,rfl,bg.cZ.mpr ⟨⟨_,rfl⟩,bg.cZ.mpr ⟨h1,rfl⟩⟩⟩,ih h2 (qh hl) fun j b hb=>hp (j+1) b hb⟩
theorem lM:∀ {a:Addr} {t:Tag} {es:List (Int×LV)} {dp:Nat} (e:σ a=some (t,.dict es dp)) (hz:es.length≤10000) (h:eL (iE es) σ Q),bV σ X ep Q [.view a] (.type "list"):=by
 revert X σ Q ep
 rintro X σ Q ep a t es:(_)
 rintro dp:(_)
 w_up
 intro hc
 rintro φ s ws:(_)
 intro hA hv
 obtain⟨w,r,rfl,h1,h2⟩:=hv.cons_inv
 have:=bg.bO.mp h2;subst this
 simp only[lh,ky,kz,kA,kE,kF,kG,ke,kg,ix,iy,iA]at h1
 obtain⟨v,rfl,hw⟩:=h1
 obtain⟨bf,hd,hr⟩:=ez hA e
 refine aD (kdx_call hc.handled ⟨_,(hA.rep.fz _ _ hw).1,rfl,rfl⟩ hd (by rw[dH,hr.length];exists hz) fun h' tk aR c as k hD hl hG uv=>?_)
 have f6:=hA.keeps (n:=tk) k
 have new:∀b∈as,b∉X.c.pv∧φ b=none∧σ b=none:=fun b hb=>by
  have:=hA.fresh (jz (Nat.le_of_lt (hG.above b hb)));exact⟨this.2.2,this.1,this.2.1⟩
 have um:=f6.ER new
 have x:=xu (φ:=φ) (h:=h') (S:=as) fun b hb=>(new b hb).2.1
 have f:=hA.fresh (bC s.heap)
 have nD:s.heap.objs.size∉as:=fun hm=>Nat.lt_irrefl _ (hG.above _ hm)
 have S:aV X.G X.c X.c.pv s φ {s with heap:=h',toks:=tk} (mO φ h' as) σ:=⟨um,x,.keeps k,rfl⟩
 have SU:bg (mO φ h' as) (iE es) aR.toList:=by
  rw[uv];refine ES (aq:=X.G.pg) (w:=X.G.w) (hr.mono x) hl fun j b hb=>?_;obtain⟨key,k',y,e1,e2,e3⟩:=hG.pairs j b hb;exact⟨key,k',y,e1,e2,by unfold mO;rw[bh (eF hb)];exact e3⟩
 obtain⟨aH,σ',lv,q1,q2,q3,_⟩:=qt.seen S ⟨f.2.2,by unfold mO;rw[aY nD];exact f.1,f.2.1,aR,⟨c,hD⟩,SU⟩ h
 exact⟨aH,σ',lv,q1,q2,q3⟩
theorem mz(hl:g7 σ v vs)(hz:vs.length≤10000)(h:eL vs σ Q):bV σ X ep Q [v] (.type "list"):=fun hc φ s ws hA hv=>by
 obtain⟨w,r,rfl,h1,h2⟩:=hv.cons_inv
 have:=bg.bO.mp h2;subst this
 obtain⟨a,xs,rfl,hL,hr⟩:=hl.at hA h1
 obtain⟨o,ho,dS,n,hd⟩:=hL
 refine aD (call_list_seq a (.inl rfl) ho dS hd (fun h' c' k hD=>?_) (by rw[dH,hr.size];exists hz))
 have f:=hA.fresh (bC s.heap)
 obtain⟨aH,σ',lv,q1,q2,q3,_⟩:=qt.seen (aV.keeps (P:=X.c.pv) (n:=s.toks) hA k) ⟨f.2.2,f.1,f.2.1,xs,⟨c',hD⟩,hr⟩ h
 exact⟨aH,σ',lv,q1,q2,q3⟩
end
end Lake
end
section
namespace JL
theorem zu:typeLookup (.type "list") "keys"=pure none:=by rw[fF,iw];k_in
theorem r9{aq:Program}{w:World}{A:Around}{E:bN}{s:aG}{a:Addr}{xs:Array Value}{k:Nat}{Q:Option Value→aG→Prop}
 (hx:s.heap.get? a=some {cls:=.type "list",data:=.seq xs k})(hA:A.handled=none)
 (h:∀h' tk,(∀b o,s.heap.get? b=some o→h'.get? b=some o)→Q none {s with heap:=h',toks:=tk}) :
  wpAny (model aq w) A (getAttr? (.ref a) "keys") Q E s:=by
 revert hx hA h
 revert aq w A E s a xs k Q
 rintro aq w A E s a xs k Q:(_)
 intro hx hA h
 obtain⟨hp,g,d,tk,os⟩:=s
 have hT:∀QN,(⟨hp,g,d,QN,os⟩:aG).TypeIs (.ref a) "list":=fun _=>⟨_,hx,rfl⟩
 have f1:=sub_AttributeError
 have f3:=F.slot_list_getattribute.lookup
 have f4:=F.slot_list_getattribute.bind (.ref a)
 have f5:=am_list_getattr_none
 unfold getAttr? getAttrBy? getAttrBy
 repeat (any_goals (first|assumption|exact hT _|((with_reducible show wpAny _ _ (call (Value.builtin "list.__getattribute__") _ _) _ _ _);refine call_meets F.slot_list_getattribute (hT _) am_entry_list_getattribute (F.args_list_getattribute_2 _ _) (meets_getattribute_miss_list a xs k #[] "keys" _ zu %[|0] (by size_fits)) ⟨hx,hA,fun h' QN e tN=>?_⟩)|wp_step))
 obtain⟨t',u',he⟩:=tN.there
 show wpAny _ _ (getattributeRaised _ _ _ _ _ _ _) _ _ _
 unfold getattributeRaised
 repeat (any_goals (first|assumption|wp_step))
 exact h _ _ tN.keeps
theorem pK:entryFor table "dict.update.loop"=some Builtin.«dict.update.loop»:=rE (by k_in)
theorem pL:plainId "dict.update.loop"=true:=by decide +kernel
section
variable {aq:Program}{w:World}{A:Around}{R:Result→aG→Prop}
noncomputable def zv(h:Heap)(k:Int)(x v:Value):Prop:=∃T o key n,v=.ref T∧h.get? T=some o∧o.cls=.type "tuple"∧o.data=.seq #[key,x] n∧(intKind aq w).is k key=true
theorem He(hh:A.handled=none){D I l:Addr}{aw:Array Value}{bf:List (Int×Value)}{s₀:aG}(EU:D≠I)(Mh:l≠I)(Mi:l≠D)(hz:bf.length≤10000)(hn:aw.size=bf.length)
 (hp:∀(j:Nat) k x,bf[j]?=some (k,x)→∃v,aw[j]?=some v∧zv (aq:=aq) (w:=w) s₀.heap k x v)(qx:s₀.heap.get? D=none)(g9:s₀.heap.get? I=none)
 (hR:∀h' tk,h'.DictOf (intKind aq w) D (merged [] bf)→(∀b o,s₀.heap.get? b=some o→h'.get? b=some o)→R (.ok (.ret .none)) {s₀ with heap:=h',toks:=tk}) :
  ∀(m i:Nat) (h:Heap) (tk:Nat),bf.length-i=m→i≤bf.length→h.IsListIter I l i→h.IsList l aw→h.DictOf (intKind aq w) D (merged [] (bf.take i))→(∀b o,s₀.heap.get? b=some o→h.get? b=some o)→
   codeAny (model aq w) A (.builtin "dict.update.loop" ⟨[.ref D,.ref I,rawInt i,.none],[]⟩) R {s₀ with heap:=h,toks:=tk}:=by
 revert hh EU Mh Mi hz hn hp qx g9 hR
 revert aq w A R D I l aw bf s₀
 rintro aq w A R D I l aw bf:(_)
 rintro s₀:(_)
 intro hh EU Mh Mi hz hn hp qx g9 hR
 intro m
 induction m with
 |zero =>
  intro i h tk hm hi hit hl hd hk;have zw:i=bf.length:=by(have w0:=Ln.fS (bf.length) (i);revert hm hi w0;room)
  subst zw;refine codeAny_builtin pK ?_;rw[Around.under_plainId pL _];show wpAny _ A.in1 (pyNext (.ref I) >>= _) _ _ _;refine aM (wpAny_pyNext_list_end (s:={s₀ with heap:=h,toks:=tk}) hh hit hl (by simp[hn]) fun h' yP=>?_);refine aM (cA ?_);refine cA (hR h' tk ?_ fun b o e=>yP b o (by first|exact Lake.cR g9 e|exact Lake.cD g9 e|exact Lake.iI g9 e rfl|exact Lake.fG g9 e rfl|exact(fun z=>by rw[z,g9]at e;cases e)) (hk b o e));rw[ib]at hd;exact hd.extBut yP EU
 |succ m ih =>
  intro i h tk hm hi hit hl hd hk;have tO:i<bf.length:=by(have w0:=Ln.fS (bf.length) (i);revert hm w0;room)
  obtain⟨⟨k,x⟩,he⟩:∃p,bf[i]?=some p:=⟨_,List.getElem?_eq_getElem tO⟩;obtain⟨v,hv,T,o,key,n,rfl,ho,hc,nF,SV⟩:=hp i k x he;have Vo:T≠I:=by first|exact Lake.cR g9 ho|exact Lake.cD g9 ho|exact Lake.iI g9 ho rfl|exact Lake.fG g9 ho rfl|exact(fun z=>by rw[z,g9]at ho;cases ho)
  refine codeAny_builtin pK ?_;rw[Around.under_plainId pL _];show wpAny _ A.in1 (pyNext (.ref I) >>= _) _ _ _;refine aM (wpAny_pyNext_list_item (s:={s₀ with heap:=h,toks:=tk}) hit hl hv fun h' SW dF=>?_);replace dF:Heap.SameBut I h h':=dF;have eD:h'.get? T=some o:=(dF.2 T Vo).trans (hk T o ho);have hT:({s₀ with heap:=h',toks:=tk}:aG).TypeIs (.ref T) "tuple":=⟨o,eD,hc⟩;refine aM (rx ?_);refine aM (wpAny_tryCatch ?_);unfold Builtin.Dict.pairItems;refine aM (wpAny_typeOf hT ?_);rw[bh %[|0]];refine aM (wpAny_seqItems eD nF (cA ?_));show wpAny _ _ (holding [key,x] (dictSet D key x)) _ _ _;have dJ:h'.DictOf (intKind aq w) D (merged [] (bf.take i)):=hd.extBut dF.extBut EU;refine rx (wpAny_dictSet_pairs SV dJ (fun eN SX zx=>?_) ?_)
  ·have zx:Heap.SameBut D h' eN:=zx;refine cA ⟨Code.quiet_builtin _ (by decide +kernel),?_⟩;have e1:rawInt ((i:Int)+1)=rawInt ((i+1:Nat):Int):=by push_cast;rfl
   rw[e1];refine ih (i+1) eN _ (by(have w0:=Ln.fS (bf.length) (i);have w1:=Ln.fS (bf.length) (i+1);revert hm w0 w1;room)) %[|tO] ?_ ?_ ?_ ?_
   ·obtain⟨o',q1,q2⟩:=SW;exact⟨o',(zx.2 I (Ne.symm EU)).trans q1,q2⟩
   ·exact(hl.extBut dF.extBut Mh).extBut zx.extBut Mi
   ·rw[merged_take_succ _ _ _ _ he];exact SX
   intro b o' e;exact(zx.2 b (by first|exact Lake.cR qx e|exact Lake.cD qx e|exact Lake.iI qx e rfl|exact Lake.fG qx e rfl|exact(fun z=>by rw[z,qx]at e;cases e))).trans ((dF.2 b (by first|exact Lake.cR g9 e|exact Lake.cD g9 e|exact Lake.iI g9 e rfl|exact Lake.fG g9 e rfl|exact(fun z=>by rw[z,g9]at e;cases e))).trans (hk b o' e))
  have:=merged_length_le [] (bf.take i);rw[dH];simp at this;(have w0:=Ln.gm (i) (bf.length);revert hz this w0;room)
theorem vm{E:bN}{Q:bN}{s:aG}(hh:A.handled=none){l:Addr}{aw:Array Value}{bf:List (Int×Value)}(hl:s.heap.PlainList l aw)(hz:bf.length≤10000)(hn:aw.size=bf.length)
 (hp:∀(j:Nat) k x,bf[j]?=some (k,x)→∃v,aw[j]?=some v∧zv (aq:=aq) (w:=w) s.heap k x v)
 (h:∀h' tk,h'.DictOf (intKind aq w) s.heap.objs.size (merged [] bf)→(∀b o,s.heap.get? b=some o→h'.get? b=some o)→Q (.ref s.heap.objs.size) {s with heap:=h',toks:=tk}) :
  wpAny (model aq w) A (call (.type "dict") [.ref l]) Q E s:=by
 revert hh hl hz hn hp h
 revert aq w A E Q s l aw bf
 rintro aq w A E Q s l aw bf:(_)
 intro hh hl hz hn hp h
 refine callType_codes (Q₁:=fun obj aj=>obj=.ref s.heap.objs.size∧aj={s with heap:=s.heap.push {cls:=.type "dict",data:=.dict #[]}}) F.kt_called_dict (F.kt_typeCall_dict_1 _) F.entry_dict_init (kt_code_dict_new _ ⟨rfl,rfl⟩) ?_
 rintro obj aj ⟨rfl,rfl⟩:_
 have CI:(s.heap.push {cls:=.type "dict",data:=.dict #[]}).DictOf (intKind aq w) s.heap.objs.size []:=Heap.DictOf.new s.heap
 obtain⟨n,ho⟩:=id hl
 have eD:(s.heap.push {cls:=.type "dict",data:=.dict #[]}).get? l=some {cls:=.type "list",data:=.seq aw n}:=fb _ ho
 have hT:({s with heap:=s.heap.push {cls:=.type "dict",data:=.dict #[]}}:aG).TypeIs (.ref l) "list":=⟨_,eD,rfl⟩
 refine⟨CI.typeIs,F.args_dict_init_2 _ _,?_⟩
 unfold Builtin.«dict.__init__»
 refine aM ?_
 unfold Builtin.Dict.selfAndRest
 refine aM (wpAny_notOrdered_dict CI.typeIs ?_)
 show wpAny _ _ (pure (s.heap.objs.size,[Value.ref l])) _ _ _
 refine cA ?_
 show wpAny _ _ (Builtin.Dict.updateFrom "dict.__init__" s.heap.objs.size (.ref l) [] .none) _ _ _
 unfold Builtin.Dict.updateFrom
 refine aM (wpAny_typeOf hT ?_)
 rw[bh %[|0]]
 refine aM (r9 eD hh fun aN It k₁=>?_)
 refine bm_if_true rfl ?_
 refine aM (wpAny_rule ?_)
 have Iu:aN.IsList l aw:=⟨_,k₁ _ _ eD,rfl,n,rfl⟩
 refine aM (wpAny_pyIter_list (s:={s with heap:=aN,toks:=It}) Iu ?_)
 have nD:s.heap.get? s.heap.objs.size=none:=Lake.bC s.heap
 have old:∀b o,s.heap.get? b=some o→aN.get? b=some o:=fun b o e=>k₁ _ _ (fb _ e)
 have nI:s.heap.get? aN.objs.size=none:=by
  cases e:s.heap.get? aN.objs.size with
  |none=>rfl
  |some o=>have:=old _ _ e;nomatch(Lake.bC aN),this
 have Mj:s.heap.objs.size<aN.objs.size:=by
  obtain⟨o,_,_,hg,_⟩:=CI;exact kq (k₁ _ _ hg)
 have Mk:l<s.heap.objs.size:=kq ho
 refine cA ⟨Code.quiet_builtin _ (by decide +kernel),?_⟩
 refine He (A:=A.in1) (s₀:=s) (R:=_) hh (m9 Mj) (m9 (Nat.lt_trans Mk Mj)) (m9 Mk) hz hn hp nD nI (fun h' tk hd hk=>?_) bf.length 0 _ It rfl (lB _) ⟨_,eO _ rfl,rfl,rfl⟩ ?_ ?_ ?_
 ·exact⟨rfl,h h' tk hd hk⟩
 ·obtain⟨o,q1,q2⟩:=Iu;exact⟨o,fb _ q1,q2⟩
 ·rw[take_zero];obtain⟨o,es,ep,q1,q2⟩:=CI;exact⟨o,es,ep,fb _ (k₁ _ _ q1),q2⟩
 exact fun b o e=>fb _ (old b o e)
end
end JL
namespace Lake
open JL
section
variable {X:Fx}{ρ:Loc}{σ:St}{Q:LV→St→Prop}{ep:EP}
noncomputable def pM(ps:List (Int×LV)):List (Int×LV):=ps.foldl (fun aR p=>f9 aR p.1 p.2) []
theorem d9.merged:∀ {ps:List (Int×LV)} {bf:List (Int×Value)} {aR:List (Int×LV)} {Ml:List (Int×Value)},d9 φ ps bf→d9 φ aR Ml→d9 φ (ps.foldl (fun aR p=>f9 aR p.1 p.2) aR) (PySem.merged Ml bf):=by
 intro ll
 induction ll with
 |nil =>
  rintro _ _ _ e h;have e:_=_:=e;subst e;exact h
 |cons f fs ih =>
  rintro _ _ _ ⟨w,r,e,h1,h2⟩ h:_;subst e;have q:=ih h2 (h.put (k:=f.1) h1);exact q
theorem EV{w:World}{h:Heap}(hf:∀b o,φ b=some o→h.get? b=some o):∀ {ps:List (Int×LV)} {vs:List Value},bg φ (iE ps) vs→
  ∃bf:List (Int×Value),d9 φ ps bf∧vs.length=bf.length∧∀(j:Nat) k x,bf[j]?=some (k,x)→∃v,vs[j]?=some v∧zv (aq:=aq) (w:=w) h k x v:=by
 intro ps
 induction ps with
 |nil =>
  intro vs hv;have:=bg.bO.mp hv;subst this;exact⟨[],rfl,rfl,fun j k x e=>nomatch e⟩
 |cons p ps ih =>
  intro vs hv;obtain⟨v,r,rfl,h1,h2⟩:=bg.cons_inv hv;obtain⟨bf,k1,k2,k3⟩:=ih h2;obtain⟨T,o,xs,n,rfl,e1,e2,e3,e4⟩:=h1;obtain⟨key,r',e5,⟨t,rfl⟩,e6⟩:=e4.cons_inv;obtain⟨x,Vn,rfl,hx,e7⟩:=e6.cons_inv;have:=bg.bO.mp e7;subst this;refine⟨(p.1,x)::bf,⟨x,bf,rfl,hx,k1⟩,congrArg (·+1) k2,fun j k y e=>?_⟩;cases j with
  |zero =>
   cases e;exact⟨_,rfl,T,o,_,n,rfl,hf _ _ e1,e2,e3.trans (congrArg (Data.seq · n) (Array.toList_inj.mp e5)),iJ _ t⟩
  |succ j=>exact k3 j k y e
theorem jr{ps:List (Int×LV)}(hl:rZ σ v (iE ps))(hz:ps.length≤10000)(h:∀D dp',σ D=none→Q (.ref D) (upd σ D (t',.dict (pM ps) dp'))):bV σ X ep Q [v] (.type "dict"):=fun hc φ s ws hA hv=>by
 obtain⟨w,r,rfl,h1,h2⟩:=hv.cons_inv
 have:=bg.bO.mp h2;subst this
 obtain⟨a,xs,rfl,hp,hr⟩:=hl.plain hA h1
 obtain⟨bf,k1,k2,k3⟩:=EV (aq:=X.G.pg) (w:=X.G.w) (fun b o e=>(hA.rep.fz b o e).1) hr
 refine aD (vm hc.handled hp (by rw[k1.length];exact hz) (by simpa using k2) (fun j k x e=>by simpa using k3 j k x e) fun h' tk hd k=>?_)
 obtain⟨dp',dJ⟩:=hd.dictAt
 have f:=hA.fresh (bC s.heap)
 exact⟨φ,_,.ref s.heap.objs.size,aV.add (n:=tk) (t:=t') (o:=.dict (pM ps) dp') hA k (bC s.heap) ⟨_,dJ,d9.merged k1 rfl⟩,rfl,h _ dp' f.2.1⟩
end
end Lake
end
section
namespace Lake
open JL
section
variable {X:Fx}{ρ:Loc}{σ:St}{Q:LV→St→Prop}{ep:EP}
noncomputable def aU(m:bW):List (Int×LV):=m.map fun p=>(p.1,.bX p.2)
noncomputable def cq(m:bW)(k:Int):Option bc:=(m.find? fun e=>e.1=k).map (·.2)
theorem eZ:∀(m:bW) (k:Int),c6 (aU m) k=(cq m k).map LV.bX:=by
 rintro m k:(_)
 unfold c6 aU cq
 rw[List.find?_map]
 cases h:m.find? ((fun e=>decide (e.1=k))∘fun p=>(p.1,LV.bX p.2))with
 |none =>
  have:(m.find? fun e=>decide (e.1=k))=none:=h;rw[this];rfl
 |some p =>
  have:(m.find? fun e=>decide (e.1=k))=some p:=h;rw[this];rfl
noncomputable def sb(m n:bW):Bool:=m.length==n.length&&m.all fun p=>cq n p.1==some p.2
theorem keq_hits{φ:FZ}{A:Around}{s:aG}{n:bW}{kb:List (Int×Value)}(hb:d9 φ (aU n) kb):∀ {m:bW} {ka:List (Int×Value)},d9 φ (aU m) ka→KeqHits A s kb ka (m.all fun p=>cq n p.1==some p.2):=by
 revert hb
 revert φ A s n kb
 rintro φ A s n kb:(_)
 intro hb
 intro ll
 induction ll with
 |nil =>
  rintro _ e;have e:_=_:=e;subst e;exact .nil
 |cons p m ih =>
  rintro _ ⟨w,r,e,h1,h2⟩:_;subst e;have ih:=ih h2;rw[List.all_cons];obtain⟨t,rfl⟩:=h1;have hg:=eZ n p.1;cases hf:cq n p.1 with
  |none =>
   rw[hf]at hg;have:=hb.none hg;exact .miss this
  |some b =>
   rw[hf]at hg;obtain⟨y,hy,⟨u,rfl⟩⟩:=hb.some hg;have q:=vj (A:=A) (s:=s) p.2.toArray t b.toArray u
   have e2:((some b:Option bc)==some p.2)=(p.2.toArray.toList==b.toArray.toList):=by
    rw[Bool.eq_iff_iff,beq_iff_eq,beq_iff_eq,Option.some.injEq];exact eq_comm
   rw[e2];exact .hit hy q ih
theorem Hf{b:Addr}{m n:bW}{dq:Nat}(ha:σ a=some (t,.dict (aU m) dp))(hb:σ b=some (u,.dict (aU n) dq))(h:Q (.bool (sb m n)) σ):O2 σ (.ref b) ep X Q (compareOp .Eq) (.ref a):=fun hc φ s va vb hA ra rb=>by
 have ra:va=.ref a:=ra
 have rb:vb=.ref b:=rb
 subst ra rb
 obtain⟨ka,da,EW⟩:=ez hA ha
 obtain⟨kb,db,EX⟩:=ez hA hb
 have hu:=hc.units
 refine aD (keq_eq (hA.rep.gC ha) (hA.rep.gC hb) da.dictOf db.dictOf (by show X.c.A.units<9900;exists hu) (fun _=>keq_hits EX EW) ?_)
 refine⟨φ,σ,.bool (sb m n),.refl hA,?_,h⟩
 have e1:ka.length=m.length:=by rw[EW.length];simp[aU]
 have e2:kb.length=n.length:=by rw[EX.length];simp[aU]
 rw[e1,e2];rfl
theorem Hg{b:Addr}{m n:bW}{dq:Nat}(ha:σ a=some (t,.dict (aU m) dp))(hb:σ b=some (u,.dict (aU n) dq))(h:Q (.bool (!sb m n)) σ):O2 σ (.ref b) ep X Q (compareOp .NotEq) (.ref a):=fun hc φ s va vb hA ra rb=>by
 have ra:va=.ref a:=ra
 have rb:vb=.ref b:=rb
 subst ra rb
 obtain⟨ka,da,EW⟩:=ez hA ha
 obtain⟨kb,db,EX⟩:=ez hA hb
 have hu:=hc.units
 refine aD (keq_ne (hA.rep.gC ha) (hA.rep.gC hb) da.dictOf db.dictOf (by show X.c.A.units<9900;exists hu) (fun _=>keq_hits EX EW) ?_)
 refine⟨φ,σ,.bool (!sb m n),.refl hA,?_,h⟩
 have e1:ka.length=m.length:=by rw[EW.length];simp[aU]
 have e2:kb.length=n.length:=by rw[EX.length];simp[aU]
 rw[e1,e2];rfl
noncomputable def xv(X:Fx)(ρ:Loc):List (Str×Expr)→St→(List (Str×LV)→St→Prop)→EP→Prop
 |[],σ,Q,_=>Q [] σ
 |e::r,σ,Q,ep=>ET ep X ρ σ e.2 (fun v ah=>xv X ρ r ah (fun vs ae=>Q ((e.1,v)::vs) ae) ep)
noncomputable def vp(φ:FZ):List (Str×LV)→List (Value×Value)→Prop
 |[],vs=>vs=[]
 |f::fs,vs=>∃t w r,vs=(.str f.1 t,w)::r∧VR φ f.2 w∧vp φ fs r
noncomputable def lN(aa:Env)(ai:Pos)(es:List ((Str×Pos)×Expr)):List (Sem Value×Sem Value):=es.map fun e=>(eval (.Constant (.str e.1.1) 0 e.1.2) aa,do let x ← eval e.2 aa;standAt ai;pure x)
theorem Kj{ai:Pos}:∀ {es:List ((Str×Pos)×Expr)} {σ:St} {Q:List (Str×LV)→St→Prop},xv X ρ (es.map fun e=>(e.1.1,e.2)) σ Q ep→dM X.n X.c→∀ {φ:FZ} {s:aG},At φ s σ X.c X.G→cV X.aa X.c ρ φ s.heap→
  TB (fun φ Bv vs=>vp φ Bv vs∧Bv.map (·.1)=es.map (·.1.1)) s s φ X.G X.c X.c.pv ep (evalPairs (lN X.aa ai es)) Q:=by
 revert X ρ ep ai
 rintro X ρ ep:(_)
 rintro ai:(_)
 intro ll
 induction ll with
 |nil =>
  rintro σ Q h hc φ s hA hF;exact aD (evalPairs_nil ⟨φ,σ,[],.refl hA,⟨rfl,rfl⟩,h⟩)
 |cons e r ih =>
  rintro σ Q h hc φ s hA hF;refine wz ?_;show wpAny _ _ _ _ (mkText e.1.1) _;refine aD (wpAny_mkText ?_);have zA:aV X.G X.c X.c.pv s φ {s with toks:=s.toks+1} φ σ:=aV.tok hA;refine ak (bG.iW zA (h hc φ {s with toks:=s.toks+1} zA.at_ (hF.step zA.ext zA.bT)) (fun v aj aX ah lv ax bD aN=>ak (dW (ao ?_))));have yw:=zA.trans ax;refine bG.iW yw (ih aN hc ax.at_ (hF.step yw.ext yw.bT)) (fun vs aO bp ae Bv aP cJ bE=>?_);exact⟨bp,ae,(e.1.1,lv)::Bv,yw.trans aP,⟨⟨_,v,vs,rfl,bD.mono aP.ext,cJ.1⟩,by simp[cJ.2]⟩,bE⟩
theorem vp.Kk{aq:Program}{w:World}{φ:FZ}:∀ {fs:List (Str×LV)} {vs:List (Value×Value)},vp φ fs vs→∃bf:List (Str×Value),Carries (PySem.strKind aq w) vs bf∧d9 φ fs bf∧bf.map (·.1)=fs.map (·.1):=by
 revert aq w φ
 rintro aq w φ:(_)
 intro ll
 induction ll with
 |nil =>
  rintro _ e;have e:_=_:=e;subst e;exact⟨[],trivial,rfl,rfl⟩
 |cons f fs ih =>
  rintro _ ⟨t,x,r,e,h1,h2⟩:_;subst e;obtain⟨bf,c,k,m⟩:=ih h2;exact⟨(f.1,x)::bf,⟨strKind_is aq w f.1 t,rfl,c⟩,⟨x,bf,rfl,h1,k⟩,by simp[m]⟩
theorem Hh:∀ {es:List ((Str×Pos)×Expr)} {keys:List (Option Expr)} {values:List Expr} {ai:Pos} (hk:keys=es.map fun e=>some (.Constant (.str e.1.1) 0 e.1.2)) (hv:values=es.map (·.2)) (nq:(evalEachOpt keys X.aa).zip ((evalEach values X.aa).map fun v=>do let x ← v;standAt ai;pure x)=(lN X.aa ai es).map fun p=>(some p.1,p.2)) (h0:es≠[]) (hlen:es.length≤15) (hn:(es.map (·.1.1)).Nodup) (h:∃t,∀D,σ D=none→xv X ρ (es.map fun e=>(e.1.1,e.2)) (upd σ D (t,.eC [])) (fun vs ah=>vs.map (·.1)=es.map (·.1.1)→ah D=some (t,.eC [])∧Q (.ref D) (upd ah D (t,.eC vs))) ep),ET ep X ρ σ (.Dict keys values ai) Q:=by
 revert X ρ σ Q ep
 rintro X ρ σ Q ep es keys values ai:(_)
 w_up
 intro hc
 rintro φ s:(_)
 intro hA hF
 obtain⟨t,h⟩:=h
 have nD:=bC s.heap
 have f:=hA.fresh nD
 have oD:(s.heap.push {cls:=.type "dict",data:=.dict #[]}).get? s.heap.objs.size=some {cls:=.type "dict",data:=.dict #[]}:=eO _ rfl
 have ax:aV X.G X.c X.c.pv s φ {s with heap:=s.heap.push {cls:=.type "dict",data:=.dict #[]}} φ (upd σ s.heap.objs.size (t,.eC [])):=
  aV.add (n:=s.toks) hA (cF _ _) nD ⟨[],⟨_,#[],0,oD,⟨rfl,rfl,rfl⟩,rfl,fun _ he=>by simp at he,Pairs.nil,nodup_nil⟩,rfl⟩
 refine(ug (knd:=PySem.strKind X.G.pg X.G.w) nq (by simpa[lN]using h0) (by simpa[lN]using hlen) ?_)
 refine bG.iW ax (Kj (h _ f.2.1) hc ax.at_ (hF.step ax.ext ax.bT)) (fun vs aj aX ah Bv aP Vp aN=>?_)
 obtain⟨bD,lk⟩:=Vp
 obtain⟨bf,c,kr,km⟩:=bD.Kk (aq:=X.G.pg) (w:=X.G.w)
 obtain⟨e,hq⟩:=aN lk
 obtain⟨k0,d0,r0⟩:=aP.at_.rep.ob _ _ _ e
 have r0:k0=[]:=r0
 subst r0
 refine⟨bf,c,d0,fun h' hd hs=>?_⟩
 rw[merged_nil_of_nodup bf (by rw[km,lk];exact hn)]at hd
 exact⟨aX,_,.ref s.heap.objs.size,(ax.trans aP).trans (aV.set (o':=.eC Bv) (n:=aj.toks+vs.length) aP.at_ e rfl rfl hs ⟨bf,hd,kr⟩),rfl,hq⟩
end
end Lake
end
section
namespace JL
theorem zB:typeLookup (.type "int") "__bytes__"=pure none:=by rw[fF,iw];k_in
theorem A4:typeLookup (.type "bytes") "__bytes__"=pure (some (.builtin "bytes.__bytes__")):=by rw[fF,iw];k_in
theorem int_index:typeLookup (.type "int") "__index__"=pure (some (.builtin "int.__index__")):=by rw[fF,iw];k_in
section
variable {aq:Program}{w:World}{A:Around}{E:bN}{s:aG}
theorem EY:∀(n:Int) (t:Tok),Meets (Builtin.«bytes.__new__» ⟨[.type "bytes",.int n t],[]⟩) (fun _ R s=>0≤n∧n≤100000∧R (.ok (.ret (.bytes (Array.replicate n.toNat 0) s.toks))) {s with toks:=s.toks+1}):=by
 rintro n t:(_)
 refine .of_wp fun aq w A R s hS=>?_
 obtain⟨h0,h1,hQ⟩:=hS
 unfold Builtin.«bytes.__new__»
 refine aM (er (a:=true) rfl ?_)
 refine cX rfl ?_
 refine aM (er F.bm_sub ?_)
 refine cX rfl ?_
 refine aM (er (F.bm_bind _) ?_)
 refine aM (er (a:=()) rfl ?_)
 refine aM (er (a:=()) rfl ?_)
 refine cX rfl ?_
 refine aM (i4 (typeIs_int s n t) zB ?_)
 refine aM (er (a:=false) rfl ?_)
 refine cX rfl ?_
 refine aM (i4 (typeIs_int s n t) int_index ?_)
 refine cX rfl ?_
 refine aM (DW (er (rfl:asIndex (.int n t)=pure n) ?_))
 refine cX (by simp[Builtin.Bytes.fitsIndex];exists h0,h1) ?_
 refine(wpAny_ite_split (fun q=>absurd q %[|h0]) fun _=>?_)
 refine(wpAny_ite_split (fun q=>absurd q %[|h1]) fun _=>?_)
 refine cX (by simp[Builtin.Bytes.tooLong,dH];exists h1) ?_
 refine aM (wpAny_rule (aM (wpAny_mkBytes ?_ (by simp[dH];exists h1))))
 exact bm_if_true %[|0] (cA ⟨_,rfl,hQ⟩)
theorem CJ:∀(b:Array UInt8) (t:Tok),Meets (Builtin.«bytes.__new__» ⟨[.type "bytes",.bytes b t],[]⟩) (fun _ R s=>R (.ok (.ret (.bytes b t))) s):=by
 rintro b t:(_)
 refine .of_wp fun aq w A R s hS=>?_
 unfold Builtin.«bytes.__new__»
 refine aM (er (a:=true) rfl ?_)
 refine cX rfl ?_
 refine aM (er F.bm_sub ?_)
 refine cX rfl ?_
 refine aM (er (F.bm_bind _) ?_)
 refine aM (er (a:=()) rfl ?_)
 refine aM (er (a:=()) rfl ?_)
 refine cX rfl ?_
 refine aM (i4 (iN s b t) A4 ?_)
 refine aM (wpAny_rule (aM (wpAny_typeOf (iN s b t) ?_)))
 exact bm_if_true %[|0] (bm_if_true %[|0] (cA ⟨_,rfl,hS⟩))
theorem ye:typeLookup (.type "bytearray") "__bytes__"=pure none:=by rw[fF,iw];k_in
theorem yf:typeLookup (.type "bytearray") "__index__"=pure none:=by rw[fF,iw];k_in
theorem pf:typeLookup (.type "bytearray") "__buffer__"=pure (some (.builtin "bytearray.__buffer__")):=by rw[fF,iw];k_in
theorem gL:typeLookup (.type "bytes") "__buffer__"=pure (some (.builtin "bytes.__buffer__")):=by rw[fF,iw];k_in
noncomputable abbrev cT(b:Array UInt8):Obj:={cls:=.type "bytearray",data:=.bytearray b}
theorem zC:typeLookup (.type "bytearray") "__release_buffer__"=pure (some (.builtin "bytearray.__release_buffer__")):=by rw[fF,iw];k_in
theorem yg:typeLookup (.type "bytes") "__release_buffer__"=pure none:=by rw[fF,iw];k_in
theorem jU{v:Value}{T name:String}{Q:Bool→aG→Prop}(hT:s.TypeIs v T)(hl:typeLookup (.type T) name=pure (some (.builtin id)))(he:id.endsWith ("."++name)=true)
 (hs:isSubtype (.type T) (.type (id.dropRight (name.length+1)))=pure true)(h:Q true s):wpAny (model aq w) A (Builtin.Bytes.slotIsOwn v name) Q E s:=by
 unfold Builtin.Bytes.slotIsOwn
 refine aM (i4 hT hl ?_)
 dsimp only
 rw[he]
 exact cX rfl (wpAny_isInstance hT hs h)
theorem kM{b:Array UInt8}{Q:Bool→aG→Prop}(ho:s.heap.get? a=some (cT b))(h:Q false s):wpAny (model aq w) A (Builtin.Bytes.ownRelease (.ref a)) Q E s:=
 aM (jU (T:="bytearray") ⟨_,ho,rfl⟩ zC (by decide +kernel) (by rw[iL];k_in) (cA h))
theorem A6:∀ {a:Addr} {b:Array UInt8} {id:String} {full:Bool} {Q:Option (Array UInt8)→aG→Prop} (ho:s.heap.get? a=some (cT b)) (h:Q (some b) s),wpAny (model aq w) A (Builtin.Bytes.buffer? id (.ref a) full) Q E s:=by
 revert aq w A E s
 rintro aq w A E s a b id full:(_)
 rintro Q:(_)
 w_up
 have hT:s.TypeIs (.ref a) "bytearray":=⟨_,ho,rfl⟩
 unfold Builtin.Bytes.buffer?
 refine aM (i4 hT pf ?_)
 refine aM (jU hT pf (by decide +kernel) (by rw[iL];k_in) (cX rfl ?_))
 refine aM (i4 hT pf ?_)
 refine aM (kM ho (cX rfl ?_))
 unfold Builtin.Bytes.payload
 refine aM (aM ?_)
 show wpAny _ _ (load a >>= _) _ _ _
 exact aM (ku ho (cA (cA (cA h))))
theorem sd:∀ {b:Array UInt8} {t:Tok} {id:String} {full:Bool} {Q:Option (Array UInt8)→aG→Prop} (h:Q (some b) s),wpAny (model aq w) A (Builtin.Bytes.buffer? id (.bytes b t) full) Q E s:=by
 revert aq w A E s
 rintro aq w A E s b t id full:(_)
 rintro Q:(_)
 w_up
 have hT:=iN s b t
 unfold Builtin.Bytes.buffer?
 refine aM (i4 hT gL ?_)
 refine aM (jU hT gL (by decide +kernel) (by rw[iL];k_in) (cX rfl ?_))
 refine aM (i4 hT gL ?_)
 unfold Builtin.Bytes.ownRelease Builtin.Bytes.slotIsOwn
 refine aM (aM (aM (i4 hT yg (cA (cA (cX rfl ?_))))))
 exact aM (er (a:=b) rfl (cA h))
theorem CK:∀(a:Addr) (b:Array UInt8),Meets (Builtin.«bytes.__new__» ⟨[.type "bytes",.ref a],[]⟩) (fun _ R s=>s.heap.get? a=some (cT b)∧b.size≤100000∧R (.ok (.ret (.bytes b s.toks))) {s with toks:=s.toks+1}):=by
 rintro a b:(_)
 refine .of_wp fun aq w A R s hS=>?_
 obtain⟨ho,hz,hQ⟩:=hS
 have hT:s.TypeIs (.ref a) "bytearray":=⟨_,ho,rfl⟩
 unfold Builtin.«bytes.__new__»
 refine aM (er (a:=true) rfl ?_)
 refine cX rfl ?_
 refine aM (er F.bm_sub ?_)
 refine cX rfl ?_
 refine aM (er (F.bm_bind _) ?_)
 refine aM (er (a:=()) rfl ?_)
 refine aM (er (a:=()) rfl ?_)
 refine cX rfl ?_
 refine aM (i4 hT ye ?_)
 refine aM (aM ?_)
 show wpAny _ _ (load a >>= _) _ _ _
 refine aM (ku ho (cA (cA ?_)))
 refine cX rfl ?_
 refine aM (i4 hT yf ?_)
 refine bm_if_true rfl ?_
 refine aM (A6 ho (aM (wpAny_rule (aM (wpAny_mkBytes ?_ (by rw[dH];exists hz))))))
 exact bm_if_true %[|0] (cA ⟨_,rfl,hQ⟩)
end
end JL
namespace JL
theorem zD:mroOf (.type "bytearray")=pure [.type "bytearray",.type "object"]:=by rw[mroOf_type];k_in
theorem vq:typeLookup (.type "bytearray") "__new__"=pure (some (.builtin "bytearray.__new__")):=by rw[fF,iw];k_in
theorem wJ:Slot "bytearray" "__init__" "bytearray.__init__":=
 .of (owner:="bytearray") (n:="__init__") (by rw[fF,iw];k_in) (by decide +kernel) (by decide +kernel) (by decide +kernel)
  (by first|exact .inl (by decide +kernel)|exact .inr (by decide +kernel)) (by rw[iL];k_in)
theorem A7:TypeCalled "bytearray" "bytearray.__new__" "bytearray.__init__":=
 ⟨by decide +kernel,by decide +kernel,⟨_,_,zD⟩,madeBy_type zD vq (by decide +kernel),by decide +kernel,by rw[iL];k_in,wJ⟩
theorem wK:entryFor table "bytearray.__new__"=some Builtin.«list.__new__»:=entryFor_alias (id':="list.__new__") (by rw[fastTable_eq_tree];k_in) (by decide +kernel) (by decide +kernel) (by rw[fastTable_eq_tree];k_in)
theorem vt:entryFor table "bytearray.__init__"=some Builtin.«bytearray.__init__»:=by exact rE (by k_in)
theorem pN:plainId "bytearray.__new__"=true:=by decide +kernel
theorem zE(l:List Value):checkBuiltinCall "bytearray.__new__" ⟨.type "bytearray"::l,[]⟩=pure ():=by k_in
theorem yh(l:List Value):checkTypeCall "bytearray" ⟨l,[]⟩=pure ():=by k_in
end JL
set_option maxRecDepth 1000000 in
theorem JL.pO:("bytearray.__new__".splitOn ".__new__").headD ""="bytearray":=by rw[split_bytearray];rfl
namespace JL
theorem qZ:isSubtype (.type "bytearray") (.type "bytearray")=pure true:=by rw[iL];k_in
section
variable {aq:Program}{w:World}{A:Around}{E:bN}{s:aG}
theorem yi(l:List Value){Q₁:bN}(h:Q₁ (.ref s.heap.objs.size) {s with heap:=s.heap.push (cT #[])}) :
  codeAny (model aq w) A (.call (.builtin "bytearray.__new__") ⟨.type "bytearray"::l,[]⟩) (wants Q₁ E) s:=by
 revert h
 revert aq w A E s l Q₁
 rintro aq w A E s l Q₁:(_)
 intro h
 refine codeAny_of_tree ?_
 show wpAny _ A.in1 (do checkBuiltinCall "bytearray.__new__" ⟨.type "bytearray"::l,[]⟩;again (.builtin "bytearray.__new__" ⟨.type "bytearray"::l,[]⟩)) _ _ s
 refine aM (er (zE l) (cA ⟨plainId_quiet pN _,codeAny_builtin_stack wK rfl fun p st=>?_⟩))
 rw[Around.under_plainId pN _]
 show wpAny _ _ (isType (.type "bytearray") >>= _) _ _ _
 refine aM (er (a:=true) rfl (cX rfl ?_))
 refine aM (er (a:=true) (by rw[pO];exact qZ) (cX rfl ?_))
 rw[pO]
 show wpAny _ _ (pure (Data.bytearray #[]) >>= _) _ _ _
 refine aM (cA (bm_if_true (by rfl) (aM (rD ?_ (by size_fits)))))
 exact cA h
end
end JL
namespace Lake
open JL
section
variable {aq:Program}{w:World}{A:Around}{E:bN}{s:aG}
theorem xw{az:List Value}{Q:bN}
 (init:wpAny (model aq w) A.in1.in1 {s with heap:=s.heap.push (cT #[])} E (Builtin.«bytearray.__init__» ⟨.ref s.heap.objs.size::az,[]⟩) (fun fin s'=>fin=.done (.ret .none)∧Q (.ref s.heap.objs.size) s'))
 (Mm:argsOk "bytearray.__init__" ⟨.ref s.heap.objs.size::az,[]⟩):wpAny (model aq w) A s E (call (.type "bytearray") az) Q:=by
 revert init Mm
 revert aq w A E s az Q
 rintro aq w A E s az Q:(_)
 intro init Mm
 have ft:=A7
 obtain⟨c,tl,SY⟩:=ft.mro
 refine dz (bU rfl (ao ⟨Code.quiet_builtin _ (by decide +kernel),ee F.entry_type_call ?_⟩))
 rw[Around.under_plain (weight_type_call_type "bytearray" az []) rfl]
 have hn:({s with heap:=s.heap.push (cT #[])}:aG).TypeIs (.ref s.heap.objs.size) "bytearray":=⟨_,eO _ rfl,rfl⟩
 unfold Builtin.«type.__call__»
 refine gR ft.notType ?_
 refine gR ft.canCreate ?_
 refine ak (cM (yh az) ?_)
 refine ak (cM SY (gR rfl ?_))
 refine ak (cM ft.made (known ?_))
 refine ak (bo (dz (Cd (yi az ?_))))
 refine leaf (wpAny_isInstance hn qZ (gR rfl ?_))
 refine dw (R:=fun r s'=>r=some .none∧Q (.ref s.heap.objs.size) s') (cY hn ft.init (dz (dA ft.init.plain vt (aD (ft.init.check _ _ _ _ _ _ _ _ hn Mm ?_))))) ?_
 ·refine aL init (fun fin s' k=>?_) fun _ _ e=>e;obtain⟨rfl,q⟩:=k;exact⟨rfl,q⟩
 rintro _ s' ⟨rfl,q⟩:_
 exact gR rfl (ao q)
end
end Lake
namespace JL
section
variable {aq:Program}{w:World}{A:Around}{E:bN}{s:aG}
theorem kN{b:Array UInt8}{f:Array UInt8→Array UInt8}{Q:Unit→aG→Prop}(ho:s.heap.get? a=some (cT b))(hz:(f b).size≤100000)
 (h:∀h',h'.get? a=some (cT (f b))→Heap.SameBut a s.heap h'→Q () {s with heap:=h'}):wpAny (model aq w) A (Builtin.Bytes.write (.ref a) f) Q E s:=by
 have eD:(s.heap.update a (Obj.mapBytearray f)).get? a=some (cT (f b)):=mZ (Obj.mapBytearray f) ho rfl
 show wpAny _ _ (updateBytearray a f) _ _ _
 unfold updateBytearray
 refine aM (ku ho ?_)
 refine aM (m:=update a (Obj.mapBytearray f)) (wpAny_update ho (wpAny_lookBehind eD ?_ (h _ eD (lz ..))))
 show(if(f b).size>sizeLine then some "bytearray:memory" else none)=none
 rw[aY (by rw[dH];exists hz)]
theorem zF{b:Array UInt8}{Q:Bool→aG→Prop}(ho:s.heap.get? a=some (cT b))(h:Q false s):wpAny (model aq w) A (do return decide ((← Builtin.Bytes.exportsOf (.ref a))>0)) Q E s:=
 aM (aM (ku ho (cA (cA h))))
theorem kO{b:Array UInt8}{Q:Array UInt8→aG→Prop}(ho:s.heap.get? a=some (cT b))(h:Q b s):wpAny (model aq w) A (Builtin.Bytes.payload (.ref a)) Q E s:=by
 unfold Builtin.Bytes.payload
 refine aM ?_
 show wpAny _ _ (load a >>= _) _ _ _
 exact aM (ku ho (cA (cA h)))
theorem CL:Builtin.Bytes.bindOptional "bytearray.__init__" "bytearray" ["source","encoding","errors"] [] []=pure [none,none,none]:=by k_in
theorem CM(v:Value):Builtin.Bytes.bindOptional "bytearray.__init__" "bytearray" ["source","encoding","errors"] [v] []=pure [some v,none,none]:=by k_in
theorem pP:typeLookup (.type "bytes") "__index__"=pure none:=by rw[fF,iw];k_in
end
end JL
namespace Lake
open JL
section
variable {aq:Program}{w:World}{A:Around}{E:bN}{s:aG}
theorem se{b:Array UInt8}{k:Bool→Sem α}{Q:α→aG→Prop}(ho:s.heap.get? a=some (cT b))(h:wpAny (model aq w) A s E (k false) Q) :
  wpAny (model aq w) A s E ((Builtin.Bytes.exported (.ref a) <||> (do return decide ((← Builtin.Bytes.exportsOf (.ref a))>0))) >>= k) Q:=
 ak (ak (wo (aD (zF ho h))))
theorem CN{a:Addr}{Q:Fin→aG→Prop}(ho:s.heap.get? a=some (cT #[]))(h:∀h',h'.get? a=some (cT #[])→Heap.SameBut a s.heap h'→Q (.done (.ret .none)) {s with heap:=h'}) :
  wpAny (model aq w) A s E (Builtin.«bytearray.__init__» ⟨[.ref a],[]⟩) Q:=by
 revert ho h
 revert aq w A E s a Q
 rintro aq w A E s a Q:(_)
 intro ho h
 unfold Builtin.«bytearray.__init__»
 refine leaf (kM ho (gR rfl ?_))
 refine ak (cM CL ?_)
 refine ak (cM (a:=()) rfl (ak (cM (a:=()) rfl ?_)))
 refine se ho (gR rfl ?_)
 refine leaf (kN ho (lB _) fun h' eD hs=>?_)
 exact ak (cM (a:=()) rfl (ao (h h' eD hs)))
theorem CO{a:Addr}{b:Array UInt8}{t:Tok}{Q:Fin→aG→Prop}(ho:s.heap.get? a=some (cT #[]))(hz:b.size≤100000)
 (h:∀h',h'.get? a=some (cT b)→Heap.SameBut a s.heap h'→Q (.done (.ret .none)) {s with heap:=h'}) :
  wpAny (model aq w) A s E (Builtin.«bytearray.__init__» ⟨[.ref a,.bytes b t],[]⟩) Q:=by
 revert ho hz h
 revert aq w A E s a b t Q
 rintro aq w A E s a b t Q:(_)
 intro ho hz h
 unfold Builtin.«bytearray.__init__»
 refine leaf (kM ho (gR rfl ?_))
 refine ak (cM (CM _) ?_)
 refine ak (cM (a:=()) rfl (ak (cM (a:=()) rfl ?_)))
 refine se ho (gR rfl ?_)
 refine leaf (kN ho (lB _) fun h' eD hs=>?_)
 refine ak (cM (a:=none) rfl (gR rfl ?_))
 refine ak (cM (a:=()) rfl ?_)
 refine leaf (PySem.wpAny_specialOf (iN _ b t) pP (gR rfl ?_))
 refine leaf (sd (qi (leaf (kN eD hz fun eN S0 dF=>?_))))
 exact ao (h eN S0 (hs.trans dF))
end
end Lake
end
section
namespace JL
theorem zG:typeLookup (.type "slice") "__index__"=pure none:=by rw[fF,iw];k_in
theorem jE:Slot "bytearray" "__setitem__" "bytearray.__setitem__":=
 .of (owner:="bytearray") (n:="__setitem__") (by rw[fF,iw];k_in) (by decide +kernel) (by decide +kernel) (by decide +kernel)
  (by first|exact .inl (by decide +kernel)|exact .inr (by decide +kernel)) (by rw[iL];k_in)
theorem rf:Slot "bytearray" "__len__" "bytearray.__len__":=
 .of (owner:="bytearray") (n:="__len__") (by rw[fF,iw];k_in) (by decide +kernel) (by decide +kernel) (by decide +kernel)
  (by first|exact .inl (by decide +kernel)|exact .inr (by decide +kernel)) (by rw[iL];k_in)
theorem j0:Slot "bytearray" "extend" "bytearray.extend":=
 .of (owner:="bytearray") (n:="extend") (by rw[fF,iw];k_in) (by decide +kernel) (by decide +kernel) (by decide +kernel)
  (by first|exact .inl (by decide +kernel)|exact .inr (by decide +kernel)) (by rw[iL];k_in)
theorem CP:PlainAttrs "bytearray":=
 ⟨⟨"bytearray.__getattribute__",by rw[fF,iw];k_in,by decide +kernel⟩,by rw[fF,iw];k_in⟩
theorem sf:entryFor table "bytearray.__setitem__"=some Builtin.«bytearray.__setitem__»:=by exact rE (by k_in)
theorem wL:entryFor table "bytearray.__len__"=some Builtin.«bytearray.__len__»:=by exact rE (by k_in)
theorem tJ:entryFor table "bytearray.extend"=some Builtin.«bytearray.extend»:=by exact rE (by k_in)
theorem vx(a b c:Value):argsOk "bytearray.__setitem__" ⟨[a,b,c],[]⟩:=by unfold argsOk;k_in
theorem A8(a:Value):argsOk "bytearray.__len__" ⟨[a],[]⟩:=by unfold argsOk;k_in
theorem wM(a b:Value):argsOk "bytearray.extend" ⟨[a,b],[]⟩:=by unfold argsOk;k_in
theorem yj(a:Value):argsOk "bytearray.__init__" ⟨[a],[]⟩:=by unfold argsOk;k_in
theorem yk(a b:Value):argsOk "bytearray.__init__" ⟨[a,b],[]⟩:=by unfold argsOk;k_in
section
variable {aq:Program}{w:World}{A:Around}{E:bN}{s:aG}
theorem vy{v:Value}{k:Option Int}{Q:bN}(hv:IsPart v k)(h:Q (rawPart k) s):wpAny (model aq w) A (do
  if v==.none then return .none
  if(← specialOf v "__index__").isNone then
   rule "bytes.slice.part-no-index";raiseError "TypeError" "slice indices must be integers or None or have an __index__ method"
  return rawInt (← asIndex v)) Q E s:=by
 cases hv with
 |none=>exact cA h
 |int i t =>
  refine cX rfl (aM (i4 (T:="int") (typeIs_int s i t) int_index (cX rfl ?_)));exact aM (er (a:=i) rfl (cA h))
theorem pj{l u:Value}{lo hi:Option Int}{Q:Value×Value×Value→aG→Prop}(hs:s.heap.IsSliceOf a l u .none)(hl:IsPart l lo)(hu:IsPart u hi)(h:Q (rawPart lo,rawPart hi,rawPart none) s) :
  wpAny (model aq w) A (Builtin.Bytes.sliceParts (.ref a)) Q E s:=by
 obtain⟨o,ho,hc,hd⟩:=hs
 unfold Builtin.Bytes.sliceParts
 refine aM (jW (x:=.none) ho hd rfl (aM (er (a:=.none) rfl ?_)))
 refine cX rfl (aM (jW (x:=l) ho hd rfl (aM (vy hl ?_))))
 exact aM (jW (x:=u) ho hd rfl (aM (vy hu (cA h))))
theorem sg{l u st:Value}{Q:Option Int→aG→Prop}(hs:s.heap.IsSliceOf a l u st)(h:Q none s):wpAny (model aq w) A (Builtin.Bytes.subscript? (.ref a)) Q E s:=by
 obtain⟨o,ho,hc,hd⟩:=hs
 unfold Builtin.Bytes.subscript?
 exact aM (i4 (T:="slice") ⟨o,ho,hc⟩ zG (bm_if_true rfl (cA h)))
theorem CQ(b:Array UInt8)(lo hi:Option Int):Builtin.Bytes.sliced b (sliceBounds lo hi none b.size).1 (sliceBounds lo hi none b.size).2.1 (sliceBounds lo hi none b.size).2.2=(Lake.f7 b.toList lo hi).toArray:=by
 unfold Builtin.Bytes.sliced Lake.f7
 rw[sliceBounds_plain]
 simp only[sliceRange_one,pick_run,Array.length_toList]
theorem A9{b:Array UInt8}{t:Tok}{a:Addr}{l u:Value}{lo hi:Option Int}{Q:Fin→aG→Prop}(hs:s.heap.IsSliceOf a l u .none)(hl:IsPart l lo)(hu:IsPart u hi)(hz:b.size≤100000)
 (h:∀t' k,Q (.done (.ret (.bytes (Lake.f7 b.toList lo hi).toArray t'))) {s with toks:=k}):wpAny (model aq w) A (Builtin.«bytes.__getitem__» ⟨[.bytes b t,.ref a],[]⟩) Q E s:=by
 revert hs hl hu hz h
 revert aq w A E s b t a l u lo hi Q
 rintro aq w A E s b t a l u lo hi:(_)
 rintro Q:(_)
 intro hs hl hu hz h
 show wpAny _ _ (Builtin.Bytes.payload (.bytes b t) >>= fun r=>_) _ _ s
 refine aM (er (a:=b) rfl ?_)
 show wpAny _ _ (Builtin.Bytes.subscript? (.ref a) >>= fun r=>_) _ _ s
 refine aM (sg hs ?_)
 obtain⟨o,ho,hc,hd⟩:=id hs
 refine aM (wpAny_typeOf (T:="slice") ⟨o,ho,hc⟩ (cX rfl (aM (pj hs hl hu ?_))))
 refine aM (er (sliceIndices_raw lo hi none b.size (fun e=>nomatch e)) ?_)
 have e:=CQ b lo hi
 dsimp only
 by_cases hw:((sliceBounds lo hi none b.size).1==0&&(sliceBounds lo hi none b.size).2.2==1&&(sliceBounds lo hi none b.size).2.1==b.size&&!b.isEmpty)=true
 ·refine bm_if_true hw (aM (wpAny_typeOf (iN s b t) (bm_if_true %[|0] (aM (wpAny_rule (cA ?_))))))
  have hb:(Lake.f7 b.toList lo hi).toArray=b:=by
   simp only[jA,beq_iff_eq]at hw;rw[← e,hw.1.1.1,hw.1.1.2,hw.1.2];have e1:=sliceRange_one 0 b.size;have e2:=pick_run b 0 b.size;unfold Builtin.Bytes.sliced;rw[show sliceRange 0 (b.size:Int) 1=(List.range (b.size-0)).map (0+·)from e1,Nat.sub_zero,e2,drop_zero,oR (by simp)]
  have:=h t s.toks;rw[hb]at this;exact this
 refine cX (by simpa using hw) (aM (wpAny_mkBytes ?_ ?_))
 ·rw[e];exact cA (h _ _)
 rw[e]
 have:(Lake.f7 b.toList lo hi).length≤b.toList.length:=by unfold Lake.f7;simp;(have w0:=Ln.gm (hi.elim b.size (clipAt b.size)-lo.elim 0 (clipAt b.size)) (b.size-lo.elim 0 (clipAt b.size));have w1:=Ln.fS (b.size) (lo.elim 0 (clipAt b.size));revert w0 w1;room)
 simp at this
 simp[dH];exists hz,this
end
end JL
namespace Lake
open JL
section
variable {aq:Program}{w:World}{A:Around}{E:bN}{s:aG}
theorem CR{Q:bN}(h:∀h',h'.get? s.heap.objs.size=some (cT #[])→(∀b o,s.heap.get? b=some o→h'.get? b=some o)→Q (.ref s.heap.objs.size) {s with heap:=h'}) :
  wpAny (model aq w) A s E (call (.type "bytearray") []) Q:=
 xw (CN (eO _ rfl) fun h' ho hs=>⟨rfl,h h' ho fun b o e=>(hs.2 b fun z=>by rw[z]at e;exact absurd (kq e) (Nat.lt_irrefl _)).trans (fb _ e)⟩) (yj _)
theorem vz{b:Array UInt8}{t:Tok}{Q:bN}(hz:b.size≤100000)
 (h:∀h',h'.get? s.heap.objs.size=some (cT b)→(∀b o,s.heap.get? b=some o→h'.get? b=some o)→Q (.ref s.heap.objs.size) {s with heap:=h'}):wpAny (model aq w) A s E (call (.type "bytearray") [.bytes b t]) Q:=
 xw (CO (eO _ rfl) hz fun h' ho hs=>⟨rfl,h h' ho fun b o e=>(hs.2 b fun z=>by rw[z]at e;exact absurd (kq e) (Nat.lt_irrefl _)).trans (fb _ e)⟩) (yk _ _)
theorem Bc{a:Addr}{b c:Array UInt8}{t:Tok}{Q:Fin→aG→Prop}(ho:s.heap.get? a=some (cT b))(hz:b.size+c.size≤100000)
 (h:∀h',h'.get? a=some (cT (b++c))→Heap.SameBut a s.heap h'→Q (.done (.ret .none)) {s with heap:=h'}):wpAny (model aq w) A s E (Builtin.«bytearray.extend» ⟨[.ref a,.bytes c t],[]⟩) Q:=by
 revert ho hz h
 revert aq w A E s a b c t Q
 rintro aq w A E s a b c t:(_)
 rintro Q:(_)
 intro ho hz h
 unfold Builtin.«bytearray.extend»
 refine ak (cM (a:=(.ref a,.bytes c t)) rfl ?_)
 refine leaf (PySem.wpAny_specialOf (iN s c t) gL (yO rfl (qi (leaf (kO ho ?_)))))
 have taken:wpAny (model aq w) A s E (Builtin.Bytes.takeBufferQuiet? "bytearray.extend" (.bytes c t) 0) (fun r s'=>r=some (c,none)∧s'=s):=by
  unfold Builtin.Bytes.takeBufferQuiet? Builtin.Bytes.takeBuffer?;refine ak (jQ (leaf (PySem.wpAny_specialOf (iN s c t) gL ?_)));refine leaf (jU (iN s c t) gL (by decide +kernel) (by rw[iL];k_in) (gR rfl ?_));exact leaf (PySem.wpAny_specialOf (iN s c t) gL (leaf (sd (ao (ao ⟨rfl,rfl⟩)))))
 refine seq taken ?_
 rintro _ s' ⟨rfl,es⟩:_
 subst es
 refine yO rfl ?_
 have last:wpAny (model aq w) A s' E (Builtin.Bytes.write (.ref a) (·++c) >>= fun _=>ret .none) Q:=leaf (kN ho (by simp;exists hz) fun h' eD hs=>ao (h h' eD hs))
 refine ed (c:=(!c.isEmpty)=true) (fun _=>ak ?_) fun _=>last
 unfold Builtin.Bytes.checkResize
 exact se ho (gR rfl (ao last))
theorem yl{a i:Addr}{b c:Array UInt8}{t:Tok}{l u:Value}{lo hi:Option Int}{x y:Nat}{Q:Fin→aG→Prop}(ho:s.heap.get? a=some (cT b))(hs:s.heap.IsSliceOf i l u .none)(hl:IsPart l lo)(hu:IsPart u hi)
 (hx:sliceBounds lo hi none b.size=((x:Int),(y:Int),1))(EZ:x≤y)(hc:c.size=y-x)(hz:b.size≤10000)(Bw:c.size≤10000)
 (h:∀aN h',(∀b o,s.heap.get? b=some o→aN.get? b=some o)→h'.get? a=some (cT (b.extract 0 x++c++b.extract y b.size))→Heap.SameBut a aN h'→Q (.done (.ret .none)) {s with heap:=h'}) :
  wpAny (model aq w) A s E (Builtin.«bytearray.__setitem__» ⟨[.ref a,.ref i,.bytes c t],[]⟩) Q:=by
 revert ho hs hl hu hx EZ hc hz Bw h
 revert aq w A E s a i b c t l u lo hi x y Q
 rintro aq w A E s a i b c t l u lo hi x y:(_)
 rintro Q:(_)
 intro ho hs hl hu hx EZ hc hz Bw h
 refine Lake.ex1 (id hs) ?_
 rintro oi:(_)
 rintro⟨Mn,Mo,Vq⟩:_
 unfold Builtin.«bytearray.__setitem__»
 refine gR rfl (leaf (sg hs ?_))
 refine leaf (PySem.wpAny_typeOf (T:="slice") ⟨oi,Mn,Mo⟩ (gR rfl (leaf (pj hs hl hu ?_))))
 have tb:=iN s c t
 refine gR rfl (ak (aD (PySem.wpAny_isInstance tb F.sub_bytes_bytearray ?_)))
 dsimp only
 have n1:typeLookup (.type "bytes") "__int__"=pure none:=by rw[fF,iw];k_in
 have n2:typeLookup (.type "bytes") "__float__"=pure none:=by rw[fF,iw];k_in
 have n3:isSubtype (.type "bytes") (.type "complex")=pure false:=by rw[iL];k_in
 have number:wpAny (model aq w) A s E ((do return (← specialOf (.bytes c t) "__index__").isSome) <||> (do return (← specialOf (.bytes c t) "__int__").isSome) <||> (do return (← specialOf (.bytes c t) "__float__").isSome) <||> isInstance (.bytes c t) (.type "complex")) (fun r s'=>r=false∧s'=s):=by
  refine ak (leaf (PySem.wpAny_specialOf tb pP (ao ?_)));refine ak (leaf (PySem.wpAny_specialOf tb n1 (ao ?_)));refine ak (leaf (PySem.wpAny_specialOf tb n2 (ao ?_)));exact aD (PySem.wpAny_isInstance tb n3 ⟨rfl,rfl⟩)
 refine yO rfl (seq number ?_)
 rintro _ s' ⟨rfl,es⟩:_
 subst es
 refine ak (cM (a:=none) rfl (gR rfl (qi ?_)))
 refine ak (vz %[|Bw] fun aN hn k₁=>?_)
 have Pb:aN.IsSliceOf i l u .none:=⟨oi,k₁ _ _ Mn,Mo,Vq⟩
 refine ak (bo (aD (pj (s:={s' with heap:=aN}) Pb hl hu ?_)))
 refine leaf (kO (s:={s' with heap:=aN}) hn (leaf (kO (s:={s' with heap:=aN}) (k₁ _ _ ho) ?_)))
 refine ak (cM (sliceIndices_raw lo hi none b.size (fun e=>nomatch e)) ?_)
 rw[hx]
 refine yO rfl (qi (gR ?_ ?_))
 ·have:max (x:Int) y=y:=by(have w0:=Ln.fM (↑x) (↑y);revert EZ w0;room)
  rw[this];simp
  (have w0:=Ln.fS (y) (x);revert EZ hc w0;room)
 refine leaf (kN (s:={s' with heap:=aN}) (k₁ _ _ ho) ?_ fun bE Iv qs=>ao (h aN bE k₁ ?_ qs))
 ·simp;(have w0:=Ln.gm (x) (b.size);have w1:=Ln.fS (b.size) ((max (x:Int) (y:Int)).toNat);have w2:=Ln.fM (↑x) (↑y);revert hz Bw w0 w1 w2;room)
 have:(max (x:Int) y).toNat=y:=by(have w0:=Ln.fT (max (x:Int) (y:Int));have w1:=Ln.fM (↑x) (↑y);revert EZ w0 w1;room)
 rw[this]at Iv
 simpa using Iv
end
end Lake
end
section
namespace JL
theorem wN(a:Addr)(b:Array UInt8):Meets (Builtin.«bytearray.__len__» ⟨[.ref a],[]⟩) (fun _ R s=>s.heap.get? a=some (cT b)∧R (.ok (.ret (.int b.size s.toks))) {s with toks:=s.toks+1}):=by
 refine .of_wp fun aq w A R s hS=>?_
 refine aM (er (a:=(.ref a,[])) rfl ?_)
 exact aM (kO hS.1 (aM (wpAny_mkInt (cA ⟨_,rfl,hS.2⟩))))
theorem Hi{aq:Program}{w:World}{A:Around}{E:bN}{s:aG}{a:Addr}{b:Array UInt8}{Q:bN}(ho:s.heap.get? a=some (cT b))(hz:b.size≤100000)
 (h:∀t k,Q (.int b.size t) {s with toks:=k}):wpAny (model aq w) A (call (.builtin "len") [.ref a]) Q E s:=by
 revert ho hz h
 revert aq w A E s a b Q
 rintro aq w A E s a b:(_)
 rintro Q:(_)
 intro ho hz h
 have hT:s.TypeIs (.ref a) "bytearray":=⟨_,ho,rfl⟩
 refine Calls.call_function_entry kind_len plain_len entry_len (args_len1 _) ?_
 unfold Builtin.«len»
 refine aM (er (a:=.ref a) rfl ?_)
 refine aM (wpAny_callSpecial?_slot (name:=Str.ofString "__len__") hT rf (call_meets rf hT wL (A8 _) (wN a b) ⟨ho,?_⟩))
 refine aM (rx (er (a:=(b.size:Int)) rfl ?_))
 refine aM (wpAny_letGo ?_)
 show wpAny _ _ (if(b.size:Int)<0 then _ else _) _ _ _
 rw[aY (by room)]
 show wpAny _ _ (if(b.size:Int)≥2 ^ 63 then _ else _) _ _ _
 rw[aY %[|hz]]
 exact aM (wpAny_mkInt (cA ⟨_,rfl,h _ _⟩))
end JL
namespace Lake
open JL
noncomputable def mA(ns:List Int):bc:=ns.map fun n=>n.toNat.toUInt8
section
variable {X:Fx}{ρ:Loc}{σ:St}{Q:LV→St→Prop}{QU:St→Prop}{ep:EP}
theorem ei(h:bg φ [v] ws):∃w,ws=[w]∧VR φ v w:=by
 obtain⟨w,r,rfl,h1,h2⟩:=h.cons_inv
 rw[bg.bO.mp h2]
 exact⟨w,rfl,h1⟩
theorem lO:∀ {ns:List Int} {vs:List Value},bg φ (ns.map LV.int) vs→IntsAre vs ns:=by
 intro ll
 induction ll with
 |nil =>
  rintro vs h;rw[bg.bO.mp h];exact .nil
 |cons n ns ih =>
  rintro vs h;obtain⟨w,r,rfl,⟨t,rfl⟩,h2⟩:=bg.cons_inv h;exact .cons n t (ih h2)
theorem lX(hl:rZ σ v (ns.map LV.int))(hr:∀n∈ns,0≤n∧n<256)(hz:ns.length≤10000)(h:Q (.bX (mA ns)) σ):bV σ X ep Q [v] (.type "bytes"):=fun hc φ s ws hA hv=>by
 obtain⟨w,rfl,h1⟩:=ei hv
 obtain⟨a,xs,rfl,hp,hx⟩:=hl.plain hA h1
 have hi:=lO hx
 refine aD (call_bytes_ints (vs:=xs.toList) (by simpa using hp.isList) hi hr (by rw[hi.length,dH];exists hz) hc.handled fun h' t k kk=>?_)
 exact⟨φ,σ,.bX (mA ns),aV.keeps hA kk,⟨t,rfl⟩,h⟩
theorem sh(x:Value){S:PySem.Spec}{w:World}{R:bN}(g:Meets (Builtin.«bytes.__new__» ⟨[.type "bytes",x],[]⟩) S)
 (h:S A.in1 (wants (fun obj aj=>aj.TypeIs obj "bytes"∧R obj aj) E) s):PySem.wpAny (model aq w) A (call (.type "bytes") [x]) R E s:=
 callType_new F.bm_called %[|0] (F.bm_typeCall _) (F.bm_newCall _) (fun obj=>F.args_object_init_2 obj _) F.bm_entry g h
theorem pn(h0:0≤n)(h1:n≤100000)(h:Q (.bX (List.replicate n.toNat 0)) σ):bV σ X ep Q [.int n] (.type "bytes"):=fun _ φ s ws hA hv=>by
 obtain⟨w,rfl,t,rfl⟩:=ei hv
 exact aD (sh _ (EY n t) ⟨h0,h1,iN _ _ _,φ,σ,.bX (List.replicate n.toNat 0),aV.tok hA,⟨s.toks,by simp⟩,h⟩)
theorem OG{b:bc}(h:Q (.bX b) σ):bV σ X ep Q [.bX b] (.type "bytes"):=fun _ φ s ws hA hv=>by
 obtain⟨w,rfl,t,rfl⟩:=ei hv
 exact aD (sh _ (CJ _ t) ⟨iN _ _ _,φ,σ,.bX b,.refl hA,⟨_,rfl⟩,h⟩)
theorem OH{b:bc}(e:σ a=some (t,.eM b))(hz:b.length≤100000)(h:Q (.bX b) σ):bV σ X ep Q [.ref a] (.type "bytes"):=fun _ φ s ws hA hv=>by
 obtain⟨w,rfl,h1⟩:=ei hv
 have h1:w=.ref a:=h1
 subst h1
 exact aD (sh _ (CK a b.toArray) ⟨hA.rep.ob _ _ _ e,by simpa using hz,iN _ _ _,φ,σ,.bX b,aV.tok hA,⟨_,rfl⟩,h⟩)
theorem CS(h:∀D,σ D=none→Q (.ref D) (upd σ D (t,.eM []))):bV σ X ep Q [] (.type "bytearray"):=fun _ φ s ws hA hv=>by
 rw[bg.bO.mp hv]
 exact CR fun h' ho k=>⟨φ,_,.ref s.heap.objs.size,aV.add (n:=s.toks) (t:=t) (o:=.eM []) hA k (bC s.heap) ho,rfl,h _ (hA.fresh (bC s.heap)).2.1⟩
theorem CT{b:bc}(hz:b.length≤100000)(h:∀D,σ D=none→Q (.ref D) (upd σ D (t,.eM b))):bV σ X ep Q [.bX b] (.type "bytearray"):=fun _ φ s ws hA hv=>by
 obtain⟨w,rfl,u,rfl⟩:=ei hv
 exact vz (by simpa using hz) fun h' ho k=>⟨φ,_,.ref s.heap.objs.size,aV.add (n:=s.toks) (t:=t) (o:=.eM b) hA k (bC s.heap) ho,rfl,h _ (hA.fresh (bC s.heap)).2.1⟩
theorem si{b:bc}(hA:At φ s σ X.c X.G)(e:σ a=some (t,.eM b)):s.heap.get? a=some (cT b.toArray):=hA.rep.ob _ _ _ e
theorem QO{b:bc}(e:σ a=some (t,.eM b))(hz:b.length≤100000)(h:Q (.int b.length) σ):bV σ X ep Q [.ref a] (.builtin "len"):=fun _ φ s ws hA hv=>by
 obtain⟨w,rfl,h1⟩:=ei hv
 have h1:w=.ref a:=h1
 subst h1
 exact aD (Hi (si hA e) (by simpa using hz) fun u k=>⟨φ,σ,.int b.length,aV.toks hA _,⟨u,by simp⟩,h⟩)
theorem aV.Bx(h:At φ s σ c G){b c':bc}(e:σ a=some (t,.eM b))(hs:Heap.SameBut a s.heap h')(hp:h'.get? a=some (cT c'.toArray)) :
  aV G c c.pv s φ {s with heap:=h'} φ (upd σ a (t,.eM c')):=aV.set (n:=s.toks) h e rfl rfl hs hp
theorem OI{b:bc}{K:Value→Prop}(e:σ a=some (t,.eM b))(h:K (.builtin "bytearray.extend")):iR X (.ref a) "extend" σ K:=
 ny CP j0 (by k_in) (fun φ s va hA ra=>by
  have ra:va=.ref a:=ra;subst ra;exact⟨⟨_,si hA e,rfl⟩,fun _ q=>by cases q;exact⟨_,si hA e,rfl⟩⟩) h
theorem OJ:∀ {a:Addr} {t:Tag} {b c:bc} (e:σ a=some (t,.eM b)) (hz:b.length+c.length≤10000) (h:Q .none (upd σ a (t,.eM (b++c)))),bV σ X ep Q [.ref a,.bX c] (.builtin "bytearray.extend"):=by
 revert X σ Q ep
 rintro X σ Q ep a t b:(_)
 rintro c:(_)
 w_up
 intro _ φ s ws hA hv
 obtain⟨w,r,rfl,h1,h2⟩:=hv.cons_inv
 have h1:w=.ref a:=h1
 subst h1
 obtain⟨w,rfl,u,rfl⟩:=ei h2
 have ho:=si hA e
 have hT:s.TypeIs (.ref a) "bytearray":=⟨_,ho,rfl⟩
 refine dz (dA j0.plain tJ (aD (j0.check _ _ _ _ _ _ _ _ hT (wM _ _) ?_)))
 exact Bc ho (by simp;exists hz) fun h' eD hs=>⟨φ,_,.none,aV.Bx hA e hs (by simpa using eD),rfl,h⟩
noncomputable def d6(b c:bc)(x:Nat):bc:=b.take x++c++b.drop (x+c.length)
theorem vA:∀ {a:Addr} {t:Tag} {b c:bc} {lo hi:LV} {x y:Option Int} {p q:Nat} (e:σ a=some (t,.eM b)) (e1:oA lo x) (e2:oA hi y) (hp:x.elim 0 (clipAt b.length)=p) (hq:y.elim b.length (clipAt b.length)=q) (hc:p+c.length=q) (hz:b.length≤10000) (Bw:c.length≤10000) (h:QU (upd σ a (t,.eM (d6 b c p)))),O3 X setItem (.ref a) (.uQ lo hi) (.bX c) σ QU ep:=by
 revert X σ QU ep
 rintro X σ QU ep a t b c lo hi x y:(_)
 rintro p q:(_)
 w_up
 intro _ φ s va vb vd hA ra rb rd
 have ra:va=.ref a:=ra
 subst ra
 simp only[lh,ky,kz,kA,kE,kF,kG,ke,kg,ix,iy,iA]at rb
 obtain⟨i,o,vl,vu,rfl,h1,h2,h3,h4,h5⟩:=rb
 obtain⟨u,rfl⟩:=rd
 have ho:=si hA e
 have hT:s.TypeIs (.ref a) "bytearray":=⟨_,ho,rfl⟩
 unfold setItem
 refine bo (leaf (wpAny_sequenceKey hT %[|0] ?_))
 refine seq (R:=fun r s'=>∃v aH σ',r=some v∧aV X.G X.c X.c.pv s φ s' aH σ'∧QU σ') (cY (name:=Str.ofString "__setitem__") hT jE (dz
  (dA jE.plain sf (aD (jE.check _ _ _ _ _ _ _ _ hT (vx _ _ _) ?_))))) ?_
 ·refine yl (x:=p) (y:=q) ho ⟨o,(hA.rep.fz _ _ h1).1,h2,h3⟩ (e1.part h4) (e2.part h5) ?_ %[|hc] (by simp;(have w0:=Ln.fS (q) (p);revert hc w0;room)) (by simpa using hz) (by simpa using Bw) fun aN h' k eD hs=>?_
  ·rw[sliceBounds_plain];simp[hp,hq]
  have ax:aV X.G X.c X.c.pv s φ {s with heap:=aN} φ σ:=aV.keeps (n:=s.toks) hA k;refine⟨.none,φ,_,rfl,ax.trans (aV.Bx ax.at_ e hs (eD.trans ?_)),h⟩;congr 2;apply Array.toList_inj.mp;unfold d6;simp only[Array.toList_append,Array.toList_extract,List.extract_eq_take_drop,List.size_toArray];rw[hc,drop_zero,Nat.sub_zero,oR (l:=b.drop q) (by simp)]
 rintro _ s' ⟨v,aH,σ',rfl,S,hq⟩:_
 exact ao ⟨aH,σ',(),S,trivial,hq⟩
theorem ic{ep:EP}{X:Fx}{σ:St}{b:bc}{lo hi:LV}{x y:Option Int}{Q:LV→St→Prop}(e1:oA lo x)(e2:oA hi y)(hz:b.length≤10000)(h:Q (.bX (f7 b x y)) σ):GI X (.bX b) (.uQ lo hi) σ Q ep:=fun _ φ s va vb hA ra rb=>by
 obtain⟨t,rfl⟩:=ra
 simp only[lh,ky,kz,kA,kE,kF,kG,ke,kg,ix,iy,iA]at rb
 obtain⟨i,o,vl,vu,rfl,h1,h2,h3,h4,h5⟩:=rb
 refine⟨⟨_,_,iN _ _ _,FB.slot_bytes_getitem.lookup⟩,?_⟩
 have m:Meets (Builtin.«bytes.__getitem__» ⟨[.bytes b.toArray t,.ref i],[]⟩) (fun _ R s=>s.heap.IsSliceOf i vl vu .none∧∀t' k,R (.ok (.ret (.bytes (f7 b x y).toArray t'))) {s with toks:=k}):=
  .of_wp fun aq w A R s hS=>A9 hS.1 (e1.part h4) (e2.part h5) (by simp;exists hz) fun t' k=>⟨_,rfl,hS.2 t' k⟩
 exact aD (getItem_meets (iN _ _ _) %[|0] FB.slot_bytes_getitem FB.entry_bytes_getitem (FB.args_bytes_getitem_2 _ _) m ⟨⟨o,(hA.rep.fz _ _ h1).1,h2,h3⟩,fun t' k=>⟨φ,σ,.bX (f7 b x y),aV.toks hA _,⟨_,rfl⟩,h⟩⟩)
theorem uy{b c:bc}(hz:b.length+c.length≤10000)(h:Q (.bX (b++c)) σ):O2 σ (.bX c) ep X Q (binaryOp .Add) (.bX b):=fun _ φ s va vb hA ra rb=>by
 obtain⟨t,rfl⟩:=ra
 obtain⟨u,rfl⟩:=rb
 exact aD (KBy.add_bytes (by simp;exists hz) fun t' k=>⟨φ,σ,.bX (b++c),aV.toks hA _,⟨t',by simp⟩,h⟩)
theorem Kl{b c:bc}(h:Q (.bool (b==c)) σ):O2 σ (.bX c) ep X Q (compareOp .Eq) (.bX b):=fun _ φ s va vb hA ra rb=>by
 obtain⟨t,rfl⟩:=ra
 obtain⟨u,rfl⟩:=rb
 exact aD (eq_bytes ⟨φ,σ,.bool (b==c),.refl hA,rfl,h⟩)
theorem Km{b c:bc}(h:Q (.bool (b != c)) σ):O2 σ (.bX c) ep X Q (compareOp .NotEq) (.bX b):=fun _ φ s va vb hA ra rb=>by
 obtain⟨t,rfl⟩:=ra
 obtain⟨u,rfl⟩:=rb
 exact aD (ne_bytes ⟨φ,σ,.bool (b != c),.refl hA,rfl,h⟩)
end
end Lake
end
section
namespace JL
section
variable {aq:Program}{w:World}{A:Around}{E:bN}{s:aG}
theorem xx{x:Value}{Q:bN}
 (h:wpAny (model aq w) A.in1 (collect x) (fun vs aj=>vs.length<64∧∃ns,IntsAre vs ns∧∀h' out nH e,(∀b o,aj.heap.get? b=some o→h'.get? b=some o)→h'.get? aj.heap.objs.size=some (seqObj "list" out e)→
   IntsAre out.toList nH→nH.Perm ns→nH.Pairwise (·≤·)→Q (.ref aj.heap.objs.size) {aj with heap:=h'}) E s):wpAny (model aq w) A (call (.builtin "sorted") [x]) Q E s:=by
 revert h
 revert aq w A E s x Q
 rintro aq w A E s x Q:(_)
 intro h
 refine Calls.call_function_entry kind_sorted plain_sorted entry_sorted (args_sorted1 _) ?_
 unfold Builtin.«sorted»
 refine aM (er (a:=()) rfl (aM (wpAny_mono h (?_) fun _ _ e=>e)))
 rintro vs aj:(_)
 intro k
 obtain⟨QP,ns,hI,k⟩:=k
 refine aM (wpAny_newList ?_ (by rw[dH];exists QP))
 have hg:(aj.heap.push {cls:=.type "list",data:=.seq vs.toArray}).get? aj.heap.objs.size=some (seqObj "list" vs.toArray 0):=eO _ rfl
 refine aM (rx (wpAny_call_entry slot_list_sort ⟨_,hg,rfl⟩ entry_list_sort (list_sort_tree hg hI QP fun out nH a1 a2 a3=>⟨_,rfl,?_⟩) (args_list_sort _)))
 obtain⟨e,he⟩:=sortedHeap_at (vs:=vs) (out:=out) hg
 refine cA ⟨_,rfl,k _ out nH e (fun b o q=>?_) he a1 a2 a3⟩
 have hb:=kq q
 have q':=fb {cls:=.type "list",data:=.seq vs.toArray} q
 exact(sortedHeap_old (m9 hb) (kq q')).trans q'
end
end JL
namespace Lake
open JL
noncomputable def hH(ns:List Int):List Int:=ns.mergeSort (fun a b=>decide (a≤b))
theorem zH{nH:List Int}(hp:nH.Perm ns)(ho:nH.Pairwise (·≤·)):nH=hH ns:=by
 refine ksm_same (hp.trans (List.mergeSort_perm ns _).symm) ho ?_
 have:=List.pairwise_mergeSort (le:=fun a b:Int=>decide (a≤b)) (fun a b c h1 h2=>by simp at *;exists h1,h2) (fun a b=>by simp;room) ns
 exact this.imp fun h=>by simpa using h
theorem E0:∀ {ns:List Int} {vs:List Value},IntsAre vs ns→bg φ (ns.map LV.int) vs:=by
 intro ns
 induction ns with
 |nil=>intro vs h;cases h;exact bg.bO.mpr rfl
 |cons n ns ih=>intro vs h;cases h with|cons _ t h=>exact bg.cZ.mpr ⟨⟨t,rfl⟩,ih h⟩
section
variable {X:Fx}{ρ:Loc}{σ:St}{Q:LV→St→Prop}{QU:St→Prop}{ep:EP}
theorem Kn:∀ {ns:List Int} {vs:List Value},vs.length=ns.length→(∀(j:Nat) (v:Value),vs[j]?=some v→∃k t,ns[j]?=some k∧v=Value.int k t)→IntsAre vs ns:=by
 intro ns
 induction ns with
 |nil=>intro vs h _;rw[length_eq_zero_iff.mp h];exact .nil
 |cons n ns ih =>
  intro vs h k;cases vs with
  |nil=>cases h
  |cons v vs =>
  obtain⟨m,t,e,rfl⟩:=k 0 v rfl;cases e;exact .cons _ t (ih (qh h) fun j w e=>k (j+1) w e)
theorem Hj:∀ {es:List (Int×LV)} {bf:List (Int×Value)},d9 φ es bf→bf.map (·.1)=es.map (·.1):=by
 intro ll
 induction ll with
 |nil =>
  rintro _ h;have h:_=_:=h;subst h;rfl
 |cons e es ih =>
  rintro _ ⟨w,r,h0,_,h2⟩:_;subst h0;simp[ih h2]
theorem vB{aX:FZ}{nH:List Int}{out:Array Value}{e:Nat}(S:aV X.G X.c X.c.pv s φ aj aX σ)(k:∀b o,aj.heap.get? b=some o→h'.get? b=some o)
 (hg:h'.get? aj.heap.objs.size=some (seqObj "list" out e))(hi:IntsAre out.toList nH)(hp:nH.Perm ns)(ho:nH.Pairwise (·≤·))(h:eL ((hH ns).map .int) σ Q) :
  bG X.G X.c X.c.pv VR s φ Q (.ref aj.heap.objs.size) {aj with heap:=h'}:=by
 have f:=S.at_.fresh (bC aj.heap)
 have S':=S.trans (aV.keeps (P:=X.c.pv) (n:=aj.toks) S.at_ k)
 rw[← zH hp ho]at h
 obtain⟨aH,σ',lv,a,b,c,_⟩:=qt.seen S' ⟨f.2.2,f.1,f.2.1,out,⟨_,hg⟩,E0 hi⟩ h
 exact⟨aH,σ',lv,a,b,c⟩
theorem tP(hl:g7 σ v (ns.map .int))(hz:ns.length<64)(h:eL ((hH ns).map .int) σ Q):bV σ X ep Q [v] (.builtin "sorted"):=fun hc φ s ws hA hv=>by
 obtain⟨w,rfl,h1⟩:=ei hv
 obtain⟨a,xs,rfl,hL,hx⟩:=hl.at hA h1
 have hi:=lO hx
 refine aD (xx (collect_list (vs:=xs.toList) (by simpa using hL) ?_ (by rw[hi.length,dH];exists hz)))
 refine⟨by rw[hi.length];exact hz,ns,hi,fun h' out nH e k hg a1 a2 a3=>?_⟩
 have ax:aV X.G X.c X.c.pv s φ {s with heap:=(s.heap.push (seqObj "list" #[] 0)).update s.heap.objs.size (Obj.mapSeq (·++xs.toList.toArray))} φ σ:=aV.keeps (n:=s.toks) hA fun b o q=>by
  rw[Heap.get?_update_other _ _ (Nat.ne_of_gt (kq q))];exact fb _ q
 exact vB ax k hg a1 a2 a3 h
theorem sj:∀ {a:Addr} {t:Tag} {es:List (Int×LV)} {dp:Nat} (e:σ a=some (t,.dict es dp)) (hz:es.length<64) (h:eL ((hH (es.map (·.1))).map .int) σ Q),bV σ X ep Q [.ref a] (.builtin "sorted"):=by
 revert X σ Q ep
 rintro X σ Q ep a t es:(_)
 rintro dp:(_)
 w_up
 intro hc
 intro φ s ws hA hv
 obtain⟨w,rfl,h1⟩:=ei hv
 have h1:w=.ref a:=h1
 subst h1
 obtain⟨bf,hd,hr⟩:=ez hA e
 have hn:=hr.length
 refine aD (xx (kdu_collect (kdl_dict (hA.rep.gC e)) hc.handled hd (by rw[dH];exists hz,hn) fun aN tk aR k uv=>?_))
 have hl:aR.toList.length=bf.length:=by rw[Array.length_toList];exact uv.1
 have hi:IntsAre aR.toList (bf.map (·.1)):=Kn (by simpa using hl) fun j v e=>by
  obtain⟨k,x,e1,e2⟩:=uv.2 j v (by rw[← Array.getElem?_toList];exact e);obtain⟨t,rfl⟩:=Value.isInt_shape e2;exact⟨k,t,by simp[e1],rfl⟩
 have hk:bf.map (·.1)=es.map (·.1):=Hj hr
 rw[hk]at hi
 refine⟨%[hz,hn|hl],_,hi,fun h' out nH e' k' hg a1 a2 a3=>?_⟩
 exact vB (aV.keeps (n:=tk) hA k) k' hg a1 a2 a3 h
theorem Hk(hl:g7 σ v (ns.map .int))(h:Q (.int ns.sum) σ):bV σ X ep Q [v] (.builtin "sum"):=fun hc φ s ws hA hv=>by
 obtain⟨w,rfl,h1⟩:=ei hv
 obtain⟨a,xs,rfl,hL,hx⟩:=hl.at hA h1
 have hi:=lO hx
 obtain⟨ys,hy⟩:=hi.allInts.items
 have hy:xs=intItems ys:=by rw[← hy]
 subst hy
 refine aD (sum_intListG hc.handled hL fun h' tk t' k=>⟨φ,σ,.int ns.sum,aV.keeps hA k,⟨t',?_⟩,h⟩)
 have e1:=hi.numsOf
 rw[nums_intItems]at e1
 rw[preSum_eq,oR (by simp),e1]
theorem S9(h:Q (.int n.natAbs) σ):bV σ X ep Q [.int n] (.builtin "abs"):=fun _ φ s ws hA hv=>by
 obtain⟨w,rfl,t,rfl⟩:=ei hv
 refine aD (call_abs_int fun u tk=>⟨φ,σ,.int n.natAbs,aV.toks hA _,⟨u,?_⟩,h⟩)
 congr 1
 split
 ·rename_i z;exact(Int.ofNat_natAbs_of_nonpos (Int.le_of_lt z)).symm
 rename_i z;exact(Int.natAbs_of_nonneg (Int.not_lt.mp z)).symm
theorem Ta:∀ {a b:Int} (h:Q (.int (min a b)) σ),bV σ X ep Q [.int a,.int b] (.builtin "min"):=by
 revert X σ Q ep
 rintro X σ Q ep a:(_)
 rintro b:(_)
 w_up
 intro hc
 intro φ s ws hA hv
 obtain⟨w,r,rfl,⟨t,rfl⟩,h2⟩:=hv.cons_inv
 obtain⟨w,rfl,u,rfl⟩:=ei h2
 refine aD (min_two_ints hc.handled fun h' tk k=>⟨φ,σ,.int (min a b),aV.keeps hA k,?_,h⟩)
 split
 ·rename_i z;exact⟨u,congrArg (Value.int · u) (Int.min_eq_right (Int.le_of_lt z)).symm⟩
 rename_i z;exact⟨t,congrArg (Value.int · t) (Int.min_eq_left (Int.not_lt.mp z)).symm⟩
theorem QQ{ep:EP}{X:Fx}{σ:St}{Q:LV→St→Prop}{b:Bool}(h:Q (.int (if b then 1 else 0)) σ):bV σ X ep Q [.bool b] (.type "int"):=fun _ φ s ws hA hv=>by
 obtain⟨w,rfl,h1⟩:=ei hv
 have h1:w=.bool b:=h1
 subst h1
 exact aD (call_int_bool ⟨φ,σ,.int (if b then 1 else 0),aV.tok hA,⟨_,rfl⟩,h⟩)
theorem Pc(h:Q (.bool true) σ):bV σ X ep Q [.int n,.con (.type "int")] (.builtin "isinstance"):=fun _ φ s ws hA hv=>by
 obtain⟨w,r,rfl,⟨t,rfl⟩,h2⟩:=hv.cons_inv
 obtain⟨w,rfl,h1⟩:=ei h2
 have h1:w=.type "int":=h1
 subst h1
 exact aD (IsiPair.int_int ⟨φ,σ,.bool true,.refl hA,rfl,h⟩)
theorem OK{b:bc}(h:Q (.bool false) σ):bV σ X ep Q [.bX b,.con (.type "int")] (.builtin "isinstance"):=fun _ φ s ws hA hv=>by
 obtain⟨w,r,rfl,⟨t,rfl⟩,h2⟩:=hv.cons_inv
 obtain⟨w,rfl,h1⟩:=ei h2
 have h1:w=.type "int":=h1
 subst h1
 have g:Meets (Builtin.«isinstance» ⟨[.bytes b.toArray t,.type "int"],[]⟩) (fun _ R s=>R (.ok (.ret (.bool false))) {s with toks:=s.toks+1}):=by
  intro _ _ _ _ s hS;obtain⟨hp,g,d,tk,os⟩:=s;exact isinstance_outer (isinstance_nested_false_bytes (by decide +kernel) F.isi_meta_int (by rw[iL];k_in) hS)
 exact aD (call_isinstance g ⟨φ,σ,.bool false,aV.tok hA,rfl,h⟩)
noncomputable def th:LV→Prop
 |.none=>False
 |.con _=>False
 |_=>True
theorem th.ne:∀ {φ:FZ} {v:LV} {w:Value} (h:th v) (r:VR φ v w),(w==.none)=false:=by
 rintro φ v w:(_)
 w_up
 cases v
 case none=>exact h.elim
 case con=>exact h.elim
 all_goals clear h
 all_goals simp only[ky,kz,kA,kE,kF,kG,ke,kg,ix,iy,iA]at r
 all_goals first
  |(obtain⟨t,rfl⟩:=r;rfl)
  |(obtain⟨a,aW⟩:=r;have:=aW;revert this;intro this;first|(obtain⟨_,_,_,rfl,_⟩:=this;rfl)|(obtain⟨_,_,rfl,_⟩:=this;rfl)|(obtain⟨rfl,_⟩:=this;rfl)|(obtain⟨_,rfl,_⟩:=this;rfl))
  |(subst r;rfl)
theorem QR(h:Q (.bool true) σ):O2 σ .none ep X Q (compareOp .Is) .none:=fun _ φ s va vb hA ra rb=>by
 have ra:va=.none:=ra
 have rb:vb=.none:=rb
 subst ra rb
 exact aD (PySem.is_none ⟨φ,σ,.bool true,.refl hA,rfl,h⟩)
theorem QT(hv:th v)(h:Q (.bool false) σ):O2 σ .none ep X Q (compareOp .Is) v:=fun _ φ s va vb hA ra rb=>by
 have rb:vb=.none:=rb
 subst rb
 exact aD (PySem.is_none ⟨φ,σ,.bool false,.refl hA,by rw[hv.ne ra];rfl,h⟩)
theorem Pd(hv:th v)(h:Q (.bool true) σ):O2 σ .none ep X Q (compareOp .IsNot) v:=fun _ φ s va vb hA ra rb=>by
 have rb:vb=.none:=rb
 subst rb
 exact aD (PySem.isNot_none ⟨φ,σ,.bool true,.refl hA,by rw[hv.ne ra];rfl,h⟩)
theorem vC(h:Q (.bool false) σ):O2 σ .none ep X Q (compareOp .IsNot) .none:=fun _ φ s va vb hA ra rb=>by
 have ra:va=.none:=ra
 have rb:vb=.none:=rb
 subst ra rb
 exact aD (PySem.isNot_none ⟨φ,σ,.bool false,.refl hA,rfl,h⟩)
theorem OL(h:Q (.bool false) σ):O2 σ (.ref a) ep X Q (compareOp .IsNot) (.ref a):=fun _ φ s va vb hA ra rb=>by
 have ra:va=.ref a:=ra
 have rb:vb=.ref a:=rb
 subst ra rb
 exact aD (wpAny_isNot_ref_self ⟨φ,σ,.bool false,.refl hA,rfl,h⟩)
theorem UI{ep:EP}{y:Str}{X:Fx}{σ:St}{Q:LV→St→Prop}(h:Q (.bool (x==y)) σ):O2 σ (.str y) ep X Q (compareOp .Eq) (.str x):=fun _ φ s va vb hA ra rb=>by
 obtain⟨t,rfl⟩:=ra
 obtain⟨u,rfl⟩:=rb
 exact aD (PyProof.Rows.eq_str ⟨φ,σ,.bool (x==y),.refl hA,rfl,h⟩)
theorem UJ{y:Str}(h:Q (.bool (x != y)) σ):O2 σ (.str y) ep X Q (compareOp .NotEq) (.str x):=fun _ φ s va vb hA ra rb=>by
 obtain⟨t,rfl⟩:=ra
 obtain⟨u,rfl⟩:=rb
 exact aD (PyProof.Rows.ne_str ⟨φ,σ,.bool (x != y),.refl hA,rfl,h⟩)
theorem Tb{x y:Bool}(h:Q (.bool (x != y)) σ):O2 σ (.bool y) ep X Q (compareOp .NotEq) (.bool x):=fun _ φ s va vb hA ra rb=>by
 have ra:va=.bool x:=ra
 have rb:vb=.bool y:=rb
 subst ra rb
 exact aD (PyProof.Rows.ne_bool ⟨φ,σ,.bool (x != y),.refl hA,rfl,h⟩)
theorem Tc{x y:Bool}(h:Q (.bool (x==y)) σ):O2 σ (.bool y) ep X Q (compareOp .Eq) (.bool x):=fun _ φ s va vb hA ra rb=>by
 have ra:va=.bool x:=ra
 have rb:vb=.bool y:=rb
 subst ra rb
 exact aD (PyProof.Rows.eq_bool ⟨φ,σ,.bool (x==y),.refl hA,rfl,h⟩)
noncomputable def Iw(x:Int):Value→Bool
 |.int n _=>n==x
 |_=>false
theorem zI{vs:List Value}(hi:IntsAre vs ns)(x:Int):vs.any (Iw x)=ns.contains x:=by
 induction hi with
 |nil=>rfl
 |cons n t h ih=>rw[any_cons,List.contains_cons,ih];show((n==x)||_)=_;rw[BEq.comm]
theorem xy{vs:List Value}(hi:IntsAre vs ns)(x:Int)(u:Tok):∀y∈vs,SeqAt.EqAt A s y (.int x u) (Iw x y):=by
 induction hi with
 |nil=>intro y hy;cases hy
 |cons n t h ih =>
  intro y hy;rcases eb hy with rfl|hy
  ·exact SeqAt.EqAt.int_int n t x u
  exact ih y hy
theorem zJ{x:Int}(hl:g7 σ v (ns.map .int))(h:Q (.bool (ns.contains x)) σ):O2 σ v ep X Q (compareOp .In) (.int x):=fun _ φ s va vb hA ra rb=>by
 obtain⟨u,rfl⟩:=ra
 obtain⟨a,xs,rfl,hL,hx⟩:=hl.at hA rb
 have hi:=lO hx
 refine aD (SeqAt.in_listAt (Iw x) hL (fun y hy=>xy hi x u y (by simpa using hy)) ⟨φ,σ,.bool (ns.contains x),.refl hA,?_,h⟩)
 rw[← Array.any_toList,zI hi];rfl
theorem Bd{x:Int}(hl:g7 σ v (ns.map .int))(h:Q (.bool (!ns.contains x)) σ):O2 σ v ep X Q (compareOp .NotIn) (.int x):=fun _ φ s va vb hA ra rb=>by
 obtain⟨u,rfl⟩:=ra
 obtain⟨a,xs,rfl,hL,hx⟩:=hl.at hA rb
 have hi:=lO hx
 refine aD (SeqAt.notIn_listAt (Iw x) hL (fun y hy=>xy hi x u y (by simpa using hy)) ⟨φ,σ,.bool (!ns.contains x),.refl hA,?_,h⟩)
 rw[← Array.any_toList,zI hi];rfl
theorem Ko{x:Int}(h:Q (.bool (ns.contains x)) σ):O2 σ (.tup (ns.map .int)) ep X Q (compareOp .In) (.int x):=fun _ φ s va vb hA ra rb=>by
 obtain⟨u,rfl⟩:=ra
 obtain⟨a,xs,rfl,ht,hv⟩:=za hA rb
 have hi:=lO hv
 refine aD (in_tuple_ints ht hi ⟨φ,σ,.bool (ns.contains x),.refl hA,?_,h⟩)
 show _=_
 congr 1
 rw[List.contains_eq_any_beq]
 congr 1
 funext y
 exact BEq.comm
end
end Lake
end
section
namespace JL
theorem wO:Slot "object" "__eq__" "object.__eq__":=
 .of (owner:="object") (n:="__eq__") (by rw[fF,iw];k_in) (by decide +kernel) (by decide +kernel) (by decide +kernel)
  (by first|exact .inl (by decide +kernel)|exact .inr (by decide +kernel)) (by rw[iL];k_in)
theorem Hl:entryFor table "object.__eq__"=some Builtin.«object.__eq__»:=by exact rE (by k_in)
theorem Pe(a b:Value):argsOk "object.__eq__" ⟨[a,b],[]⟩:=by unfold argsOk;k_in
theorem Kp:builtinKind "object.__eq__"=some .slot:=by decide +kernel
theorem Hm:splitId "object.__eq__"=some ("object","__eq__"):=by decide +kernel
noncomputable def pQ(K:Frag)(C:Addr):Bool:=findIn K (.ref C) "__eq__"==some (some (.builtin "object.__eq__"))&&plainOver K C
section
variable {aq:Program}{w:World}{A:Around}{E:bN}{s:aG}{K:Frag}{C x y:Addr}{ox oy:Obj}{od sk:Option Obj}
theorem Kq(X:K.In s.heap)(I:InstAt s.heap x ox C od)(hp:plainOver K C=true):Looks (model aq w) s.heap (isInstance (.ref x) (.type "object")) true:=by
 obtain⟨cd,hc,only⟩:=any_some hp
 have full:cd.mro.isEmpty=false:=by
  cases q:cd.mro
  ·nomatch q,only
  rfl
 exact I.type.andThen (looks_mroIn X (by simp only[mroIn,hc,Option.bind_some,full,qf,if_false,only_has only]))
theorem vD(I:InstAt s.heap x ox C od)(J:InstAt s.heap y oy C sk)(bF:x≠y){Q:Bool→aG→Prop}(h:Q false s):wpAny (model aq w) A (isSame (.ref x) (.ref y)) Q E s:=by
 unfold isSame
 have:(x==y)=false:=beq_eq_false_iff_ne.mpr bF
 refine cX this (aM (ku I.at_ (aM (ku J.at_ ?_))))
 rw[I.cls]
 exact cA h
theorem Kr(X:K.In s.heap)(I:InstAt s.heap x ox C od)(J:InstAt s.heap y oy C sk)(hp:plainOver K C=true)(bF:x≠y){Q:bN}(h:Q .notImplemented s) :
  wpAny (model aq w) A (call (.builtin "object.__eq__") [.ref x,.ref y]) Q E s:=by
 refine wpAny_call (codeAny_call_builtin wO.plain Hl (@check_slot (model aq w) _ _ s "object.__eq__" "object" "__eq__" (.ref x) [.ref y] [] _ Kp Hm (Kq X I hp) (Pe _ _) ?_))
 unfold Builtin.«object.__eq__»
 refine aM (er (a:=(.ref x,[.ref y])) rfl (aM (vD I J bF (cX rfl ?_))))
 exact cA h
theorem E6(X:K.In s.heap)(I:InstAt s.heap x ox C od)(J:InstAt s.heap y oy C sk)(hp:pQ K C=true)(bF:x≠y){Q:Option Value→aG→Prop}(h:Q none s) :
  wpAny (model aq w) A (tryCompare (.ref x) "__eq__" (.ref y)) Q E s:=by
 revert X I J hp bF h
 revert aq w A E s K C x y ox oy od sk Q
 rintro aq w A E s K C x y ox oy od:(_)
 rintro sk Q:(_)
 intro X I J hp bF h
 obtain⟨h1,h2⟩:=Bool.and_eq_true_iff.mp hp
 have hs:findIn K (.ref C) "__eq__"=some (some (.builtin "object.__eq__")):=beq_iff_eq.mp h1
 have fin:wpAny (model aq w) A (call (.builtin "object.__eq__") ([.ref x]++[.ref y]) >>= fun v=>pure (some v)) (fun r s'=>r=some .notImplemented∧s'=s) E s:=aM (Kr X I J h2 bF (cA ⟨rfl,rfl⟩))
 unfold tryCompare
 refine aM (wpAny_mono (Q:=fun r s'=>r=some .notImplemented∧s'=s) ?_ (fun r s' k=>?_) fun _ _ e=>e)
 ·unfold callSpecialIfBound? bindSpecialIfBound?;refine rx (aM (aM (aM (I.type.here ((looks_findIn X hs).here (aM (wpAny_askSetting (wpAny_ite ?_))))))));split
  ·exact aM (er (wO.bind (.ref x)) (cA fin))
  exact wpAny_tryCatch (aM (er (wO.bind (.ref x)) (cA fin)))
 obtain⟨rfl,rfl⟩:=k
 exact cA h
theorem zK(hu:A.units<cLine)(X:K.In s.heap)(I:InstAt s.heap x ox C od)(J:InstAt s.heap y oy C sk)(hp:pQ K C=true)(bF:x≠y){Q:Bool→aG→Prop}(h:Q false s) :
  wpAny (model aq w) A (eqBool (.ref x) (.ref y)) Q E s:=by
 revert hu X I J hp bF h
 revert aq w A E s K C x y ox oy od sk Q
 rintro aq w A E s K C x y ox oy od:(_)
 rintro sk Q:(_)
 intro hu X I J hp bF h
 unfold eqBool
 have e1:(Value.ref x==Value.ref y)=false:=by
  rw[beq_eq_false_iff_ne];intro z;cases z;exact bF rfl
 refine rx (cX e1 (aM ?_))
 unfold richCompare
 rw[oneThing_ref]
 refine rx (aM (wpAny_cRoomFor hu ?_))
 refine aM (I.type.here (aM (J.type.here ?_)))
 have e2:(Value.ref C != Value.ref C)=false:=by simp
 refine cX e2 (aM (cA (cX rfl (aM (E6 X I J hp bF ?_)))))
 refine bm_if_true rfl (aM (E6 X J I hp (Ne.symm bF) ?_))
 refine aM (wpAny_rule (aM (vD I J bF (cA ?_))))
 exact wpAny_truthy_bool h
theorem Be{Q:Bool→aG→Prop}(h:Q true s):wpAny (model aq w) A (eqBool (.ref x) (.ref x)) Q E s:=by
 unfold eqBool
 exact rx (bm_if_true (by simp) (aM (wpAny_rule (cA h))))
theorem E7{R:Result→aG→Prop}{l:Addr}{aw:Array Value}{n j:Nat}(hu:A.units+1<cLine)(X:K.In s.heap)(I:InstAt s.heap x ox C od)(hp:pQ K C=true)(hl:s.heap.get? l=some (seqObj "list" aw n))
 (hz:aw.size≤10000)(hj:aw[j]?=some (.ref x))(hb:∀m,m<j→∃y oy sk,aw[m]?=some (.ref y)∧y≠x∧InstAt s.heap y oy C sk)
 (h:∀h',h'.PlainList l (aw.eraseIdxIfInBounds j)→Heap.SameBut l s.heap h'→R (.ok (.ret .none)) {s with heap:=h'}) :
  ∀k i:Nat,j-i=k→i≤j→codeAny (model aq w) A (.builtin "list.remove.loop" ⟨[.ref l,.ref x,rawInt i],[]⟩) R s:=by
 revert hu X I hp hl hz hj hb h
 revert aq w A s K C x ox od R l aw n j
 rintro aq w A s K C x ox od R l aw:(_)
 rintro n j:(_)
 intro hu X I hp hl hz hj hb h
 intro k
 induction k with
 |zero =>
  intro i hk hi;have e:i=j:=by(have w0:=Ln.fS (j) (i);revert hk hi w0;room)
  subst e;refine codeAny_builtin MeetsSeq.entry_remove_loop ?_;rw[Around.under_plainId MeetsSeq.plain_remove_loop _];refine aM (listItems_at hl rfl ?_);have Bm:aw[((i:Nat):Int).toNat]?=some (.ref x):=by simpa using hj
  rw[Bm];refine aM (Be (bm_if_true rfl ?_));refine aM (listUpdate_at hl rfl (cA (h _ ⟨_,IsL.update (n:=n) hl _⟩ (lz ..))) (by rw[dH];exists hz) ?_);exact Nat.le_trans (MeetsSeq.size_erased aw _) (by rw[dH];exists hz)
 |succ k ih =>
  intro i hk hi;obtain⟨y,oy,sk,hy,bF,J⟩:=hb i (by(have w0:=Ln.fS (j) (i);revert hk w0;room));refine codeAny_builtin MeetsSeq.entry_remove_loop ?_;rw[Around.under_plainId MeetsSeq.plain_remove_loop _];refine aM (listItems_at hl rfl ?_);have Bm:aw[((i:Nat):Int).toNat]?=some (.ref y):=by simpa using hy
  rw[Bm];refine aM (zK hu X J I hp bF (cX rfl ?_));have e1:rawInt ((i:Int)+1)=rawInt ((i+1:Nat):Int):=by push_cast;rfl
  rw[e1];exact cA ⟨plainId_quiet MeetsSeq.plain_remove_loop _,ih (i+1) (by(have w0:=Ln.fS (j) (i);have w1:=Ln.fS (j) (i+1);revert hk w0 w1;room)) (by(have w0:=Ln.fS (j) (i);revert hk w0;room))⟩
end
end JL
namespace Lake
open JL
section
variable {X:Fx}{σ:St}{Q:LV→St→Prop}{ep:EP}
noncomputable def E8(σ:St)(C:Addr)(v:LV):Prop:=∃y t dx fs,v=.ref y∧σ y=some (t,.inst C dx fs)
theorem Bf:∀ {a x C dx:Addr} {t t':Tag} {vs:List LV} {fs:List (Str×LV)} {j:Nat} (e:σ a=some (t,.list vs)) (ex:σ x=some (t',.inst C dx fs)) (hp:pQ X.G.K C=true) (hz:vs.length≤10000) (hj:vs[j]?=some (.ref x)) (hb:∀m v,m<j→vs[m]?=some v→v≠.ref x∧E8 σ C v) (h:Q .none (upd σ a (t,.list (vs.eraseIdx j)))),bV σ X ep Q [.ref a,.ref x] (.builtin "list.remove"):=by
 revert X σ Q ep
 rintro X σ Q ep a x C dx t t' vs fs:(_)
 rintro j:(_)
 w_up
 intro hc
 rintro φ s ws:(_)
 intro hA hv
 obtain⟨w,r,rfl,h1,h2⟩:=hv.cons_inv
 have h1:w=.ref a:=h1
 subst h1
 obtain⟨w,rfl,h1⟩:=ei h2
 have h1:w=.ref x:=h1
 subst h1
 refine Lake.ex1 (hA.rep.ob _ _ _ e) ?_
 rintro xs:(_)
 rintro⟨⟨n,hl⟩,hr⟩:_
 obtain⟨es,m,I,_,_⟩:=rP hA ex
 have hs:=hr.size
 obtain⟨w,hw,ml⟩:=hr.get hj
 have ml:w=.ref x:=ml
 subst ml
 have hT:s.TypeIs (.ref a) "list":=⟨_,hl,rfl⟩
 have hu:=hc.units
 refine aD (PySem.wpAny_call (PySem.codeAny_call_builtin F.slot_list_remove.plain F.entry_list_remove (F.slot_list_remove.check _ _ _ _ _ _ _ _ hT (F.args_list_remove_2 _ _) ?_)))
 unfold Builtin.«list.remove»
 refine PySem.wpAny_bind (PySem.wpAny_of_eq (a:=(.ref a,.ref x)) rfl (PySem.wpAny_pure ⟨plainId_quiet MeetsSeq.plain_remove_loop _,?_⟩))
 refine E7 (n:=n) (by show X.c.A.units+1<9900;exists hu) hA.rep.K I hp hl %[hz|hs] (by simpa using hw) (fun m hm=>?_) (fun h' vk dF=>?_) j 0 (by room) (lB _)
 ·have tO:m<vs.length:=Nat.lt_trans hm (List.getElem?_eq_some_iff.mp hj).1;obtain⟨bF,y,ty,dy,fy,he,hy⟩:=hb m _ hm (List.getElem?_eq_getElem tO);obtain⟨w,hw,ml⟩:=hr.get (List.getElem?_eq_getElem tO);rw[he]at ml bF;have ml:w=.ref y:=ml;subst ml;obtain⟨mh,m',J,_,_⟩:=rP hA hy;exact⟨y,_,_,by simpa using hw,fun z=>bF (by rw[z]),J⟩
 refine⟨φ,_,.none,aV.pJ (n:=s.toks) hA e dF vk ?_,rfl,h⟩
 rw[nz];exact hr.erase _
end
end Lake
end
section
namespace JL
theorem Ks:mroOf (.type "reversed")=pure [.type "reversed",.type "object"]:=F.mro_reversed
theorem ym:Slot "reversed" "__init__" "object.__init__":=
 .of (owner:="object") (n:="__init__") (by rw[fF,iw];k_in) (by decide +kernel) (by decide +kernel) (by decide +kernel)
  (by first|exact .inl (by decide +kernel)|exact .inr (by decide +kernel)) (by rw[iL];k_in)
theorem iY:Slot "reversed" "__next__" "reversed.__next__":=
 .of (owner:="reversed") (n:="__next__") (by rw[fF,iw];k_in) (by decide +kernel) (by decide +kernel) (by decide +kernel)
  (by first|exact .inl (by decide +kernel)|exact .inr (by decide +kernel)) (by rw[iL];k_in)
theorem rg:Slot "reversed" "__iter__" "reversed.__iter__":=
 .of (owner:="reversed") (n:="__iter__") (by rw[fF,iw];k_in) (by decide +kernel) (by decide +kernel) (by decide +kernel)
  (by first|exact .inl (by decide +kernel)|exact .inr (by decide +kernel)) (by rw[iL];k_in)
theorem pR:entryFor table "reversed.__next__"=some Builtin.«reversed.__next__»:=by exact rE (by k_in)
theorem wQ:entryFor table "reversed.__iter__"=some Builtin.«dict_keyiterator.__iter__»:=entryFor_alias (id':="dict_keyiterator.__iter__") (by rw[fastTable_eq_tree];k_in) (by decide +kernel) (by decide +kernel) (by rw[fastTable_eq_tree];k_in)
theorem tQ(a:Value):argsOk "reversed.__next__" ⟨[a],[]⟩:=by unfold argsOk;k_in
theorem Bg(a:Value):argsOk "reversed.__iter__" ⟨[a],[]⟩:=by unfold argsOk;k_in
theorem tK:typeLookup (.type "bytes") "__reversed__"=pure none:=by rw[fF,iw];k_in
theorem CU:TypeCalled "reversed" "reversed.__new__" "object.__init__":=
 ⟨by decide +kernel,by decide +kernel,⟨_,_,Ks⟩,F.made_reversed,by decide +kernel,by rw[iL];k_in,ym⟩
noncomputable abbrev qy(b:Array UInt8)(t:Tok)(i:Int):Obj:={cls:=.type "reversed",data:=.fields #[.bytes b t,rawInt i]}
section
variable {aq:Program}{w:World}{A:Around}{E:bN}{s:aG}
theorem Kt:∀(b:Array UInt8) (t:Tok),Meets (Builtin.«reversed.__new__» ⟨[.type "reversed",.bytes b t],[]⟩)
  (fun _ R s=>b.size≤100000∧∀k,R (.ok (.ret (.ref s.heap.objs.size))) {s with heap:=s.heap.push (qy b t ((b.size:Int)-1)),toks:=k}):=by
 rintro b t:(_)
 refine .of_wp fun aq w A R s hS=>?_
 obtain⟨hz,hQ⟩:=hS
 have tb:=iN s b t
 unfold Builtin.«reversed.__new__»
 refine aM (er (newClass_reversed _) (aM (er (a:=()) (by k_in) (aM (er (a:=()) (by k_in) ?_)))))
 refine aM (i4 tb tK ?_)
 refine aM ?_
 have h1:isSubtype (.type "bytes") (.type "dict")=pure false:=by rw[iL];k_in
 refine aM (wpAny_isInstance tb h1 (cX rfl (aM (i4 tb FB.slot_bytes_getitem.lookup (bm_if_true (by decide +kernel) (cA ?_))))))
 refine cX rfl (aM (len_bytes %[|hz] (aM (er (a:=some (b.size:Int)) rfl ?_))))
 refine aM ?_
 show wpAny _ _ (newObj (.type "reversed") (.fields #[.bytes b t,rawInt ((b.size:Int)-1)])) _ _ _
 refine rD ?_ (by size_fits)
 exact cA ⟨_,rfl,hQ _⟩
theorem Hn{b:Array UInt8}{t:Tok}{Q:bN}(hz:b.size≤100000)(h:∀k,Q (.ref s.heap.objs.size) {s with heap:=s.heap.push (qy b t ((b.size:Int)-1)),toks:=k}) :
  wpAny (model aq w) A (call (.type "reversed") [.bytes b t]) Q E s:=
 callType_new CU %[|0] (F.typeCall_reversed_1 _) (F.newCall_reversed_1 _) (fun obj=>F.args_object_init_2 obj _) F.entry_reversed_new (Kt b t) ⟨hz,fun k=>⟨⟨_,eO _ rfl,rfl⟩,h k⟩⟩
theorem Ho{it:Addr}{l:bc}{t:Tok}{i:Nat}{Q:Option Value→aG→Prop}(ho:s.heap.get? it=some (qy l.toArray t i))(hi:i<l.length)(hz:l.length≤100000)
 (hQ:∀h' u k,h'.get? it=some (qy l.toArray t ((i:Int)-1))→Heap.SameBut it s.heap h'→Q (some (.int (l.getD i 0).toNat u)) {s with heap:=h',toks:=k}):wpAny (model aq w) A (pyNext (.ref it)) Q E s:=by
 revert ho hi hz hQ
 revert aq w A E s it l t i Q
 rintro aq w A E s it l t i:(_)
 rintro Q:(_)
 intro ho hi hz hQ
 have hT:s.TypeIs (.ref it) "reversed":=⟨_,ho,rfl⟩
 unfold pyNext
 refine aM (DW (wpAny_callSpecial?_slot (name:=Str.ofString "__next__") hT iY (wpAny_call_entry iY hT pR ?_ (tQ _))))
 unfold Builtin.«reversed.__next__»
 refine aM (er (a:=(Value.ref it,[])) rfl ?_)
 refine aM (jW ho rfl (x:=.bytes l.toArray t) rfl (aM (jW ho rfl (x:=rawInt (i:Int)) rfl ?_)))
 show wpAny _ _ (if(i:Int)<0 then _ else _) _ _ s
 rw[aY (by room)]
 refine aM (i4 (iN s _ t) FB.slot_bytes_getitem.lookup (cX rfl ?_))
 refine aM (wpAny_mkInt (aM (DW (getItem_bytes %[|hz] (by room) %[|hi] ?_))))
 refine aM (jW (s:={s with toks:=s.toks+1+1}) ho rfl (x:=rawInt (i:Int)) rfl ?_)
 have eD:=mZ (Obj.mapFields (·.setIfInBounds 1 (rawInt ((i:Int)-1)))) ho rfl
 refine aM (wj (s:={s with toks:=s.toks+1+1}) ho rfl (by simp) ?_)
 refine cA ⟨_,rfl,cA ?_⟩
 rw[rB]
 exact hQ _ _ _ eD (lz ..)
theorem zL{it:Addr}{b:Array UInt8}{t:Tok}{Q:Option Value→aG→Prop}(hh:A.handled=none)(ho:s.heap.get? it=some (qy b t (-1)))
 (hQ:∀h',Heap.ExtBut it s.heap h'→Q none {s with heap:=h'}):wpAny (model aq w) A (pyNext (.ref it)) Q E s:=by
 revert hh ho hQ
 revert aq w A E s it b t Q
 rintro aq w A E s it b t Q:(_)
 intro hh ho hQ
 have hT:s.TypeIs (.ref it) "reversed":=⟨_,ho,rfl⟩
 unfold pyNext
 refine aM (DW (wpAny_callSpecial?_slot (name:=Str.ofString "__next__") hT iY (wpAny_call_entry iY hT pR ?_ (tQ _))))
 unfold Builtin.«reversed.__next__»
 refine aM (er (a:=(Value.ref it,[])) rfl ?_)
 refine aM (jW ho rfl (x:=.bytes b t) rfl (aM (jW ho rfl (x:=rawInt (-1)) rfl ?_)))
 show wpAny _ _ (if(-1:Int)<0 then _ else _) _ _ s
 rw[bh %[|0]]
 have Pf:(s.heap.update it (Obj.mapFields (·.setIfInBounds 1 (rawInt (-1))))).get? it=some (qy b t (-1)):=mZ (Obj.mapFields (·.setIfInBounds 1 (rawInt (-1)))) ho rfl
 refine aM (wpAny_rule (aM (aM (wj ho rfl (by simp) (wj (s:={s with heap:=s.heap.update it (Obj.mapFields (·.setIfInBounds 1 (rawInt (-1))))}) Pf rfl (by simp) ?_)))))
 refine aM ?_
 first
 |show wpAny _ _ (newExc (.type "StopIteration") [] >>= _) _ _ _
 |(refine aM ?_;show wpAny _ _ (newExc (.type "StopIteration") [] >>= _) _ _ _)
 refine aM ?_
 unfold newExc newTuple
 refine aM (rD ?_ (by size_fits))
 refine aM (m:=firstArgMember _ _) (er (a:=Value.none) (by first|rfl|(simp only[firstArgMember];rfl)) ?_)
 refine rD ?_ (by size_fits)
 unfold raiseNew
 refine aM (wpAny_handled ?_)
 first|rw[show A.in1.handled=none from hh]|rw[hh]
 refine aM (cA (wpAny_throw ?_))
 refine aM (wpAny_isInstance (T:="StopIteration") (b:=true) ⟨_,eO _ rfl,rfl⟩ isSubtype_stop ?_)
 refine cA (hQ _ ?_)
 exact(((lz ..).trans (lz ..)).extBut.push _).push _
end
end JL
namespace Lake
open JL
noncomputable def ig(b:bc):List LV:=b.map fun x=>.int x.toNat
theorem sm(b:bc)(i:Nat)(v:LV)(h:(ig b.reverse)[i]?=some v):i<b.length∧v=.int (b.getD (b.length-1-i) 0).toNat:=by
 have hi:i<b.length:=by
  rcases Nat.lt_or_ge i b.length with z|z
  ·exact z
  nomatch(List.getElem?_eq_none (by simpa[ig]using z)),h
 refine⟨hi,?_⟩
 have h2:b.length-1-i<b.length:=by(have w0:=Ln.fS (b.length-1) (i);have w1:=Ln.fS (b.length) (1);revert hi w0 w1;room)
 simp only[ig,List.getElem?_map,List.getElem?_reverse hi,List.getElem?_eq_getElem h2,Option.map_some,Option.some.injEq]at h
 rw[← h]
 simp[h2]
section
variable {X:Fx}{ρ:Loc}{σ:St}{ep:EP}{K:List LV→(St→Prop)→St→Prop}
theorem fE.rev{b:bc}{t:Tok}(hz:b.length≤100000)(ht:fO aB=true) :
  fE G aB it [it] (ig b.reverse) (fun _=>True) (fun i _ h=>h.get? it=some (qy b.toArray t ((b.length:Int)-1-i))) where
 live:=fun i φ h ho b hb=>by
  rw[dE hb];exact⟨_,ho,u0 rfl fun _ _ z=>by cases z⟩
 keep:=fun i φ aH h h' ho x kf k=>k it (by simp) _ ho
 item:=fun m c' φ σ s i v Q E hc hA hf eI hI hv hQ=>by
  obtain⟨hi,rfl⟩:=sm b i v hv;have e:(b.length:Int)-1-i=((b.length-1-i:Nat):Int):=by(have w0:=Ln.fS (b.length-1) (i);have w1:=Ln.fS (b.length) (1);revert hi w0 w1;room)
  rw[e]at hI;refine aD (Ho hI %[|e] hz fun h' u k ow dF=>⟨_,rfl,zg (s:={s with heap:=h',toks:=k}) ht ow rfl rfl %[|0] ?_⟩);refine hQ φ h' k _ (hA.fR hf (di dF.extBut)) (.refl _) (fun b hb=>(hf b hb).2.1) (di dF.extBut) ?_ ⟨u,rfl⟩;have e2:(b.length:Int)-1-((i+1:Nat):Int)=((b.length-1-i:Nat):Int)-1:=by exists e
  show h'.get? it=_;rw[e2];exact ow
 fin:=fun m c' φ σ s Q E hc hA hf eI hI hQ=>by
  have e:(b.length:Int)-1-((ig b.reverse).length:Int)=-1:=by simp only[ig,bB,List.length_reverse];room
  rw[e]at hI;refine aD (zL hc.handled hI fun h' k=>⟨rfl,?_⟩);exact hQ φ h' s.toks (hA.fR hf (di k)) (.refl _) (di k)
 self:=fun A i φ s Q E hI h=>aD (wpAny_pyIter_slot (T:="reversed") ⟨_,hI,rfl⟩ rg (PySem.wpAny_call_entry rg (T:="reversed") ⟨_,hI,rfl⟩ wQ (PySem.wpAny_pure ⟨_,rfl,"reversed",_,⟨_,hI,rfl⟩,iY.lookup,h⟩) (Bg _)))
theorem Mp:∀ {e:Expr} {aB:Expr} {pr ai:Pos} (ht:fO aB=true) (hp:dg [e]=true) (hk:X.aa.kindOf (Str.ofString "reversed")=some .globalImplicit) (hg:X.G.mg (Str.ofString "reversed")=none) (h:EA X ρ [e] σ (fun vs ah=>∃b,vs=[.bX b]∧b.length≤10000∧K (ig b.reverse) (fun _=>True) ah) ep) (he:autoParam (eval (.Call (.Name (Str.ofString "reversed") pr) [e] [] ai) X.aa=(do callWith ai (← eval (.Name (Str.ofString "reversed") pr) X.aa) [] (backTo ai (starEach [e] X.aa)) (backToKw ai (keywordEach [] X.aa)))) Jm.a0),IE X ρ σ (.Call (.Name (Str.ofString "reversed") pr) [e] [] ai) aB K ep:=by
 revert X ρ σ ep K
 rintro X ρ σ ep K e aB pr ai:(_)
 w_up
 intro hc
 intro φ s hA hF
 have run:=uu (X:=X) (ρ:=ρ) (σ:=σ) (ep:=ep) (P:=fun aH σ' v s'=>∃(it:Addr) (b:bc) (t:Tok),v=.ref it∧s'.heap.get? it=some (qy b.toArray t ((b.length:Int)-1))∧it∉X.c.pv∧aH it=none∧σ' it=none∧b.length≤10000∧K (ig b.reverse) (fun _=>True) σ') hp
  (ji hk hg (v:=.type "reversed") (by k_in) %[|0] ⟨.type "reversed",fun φ v e=>e,oh,EA.mono h ?_⟩) he hc hA hF
 ·refine aL run (fun va aj hq=>?_) fun _ _ e=>e;obtain⟨aX,ah,ax,it,b,t,hv,hr,h1,h2,h3,hz,hK⟩:=hq;subst hv;have ok:=fE.rev (G:=X.G) (aB:=aB) (it:=it) (b:=b) (t:=t) %[|hz] ht;refine ok.self X.c.A 0 aX aj _ _ (by simpa using hr) ⟨aX,ah,_,_,_,_,_,rfl,ax,ok,by simpa using hr,fun b hb=>?_,trivial,hK⟩;rw[dE hb];exact⟨h1,h2,h3⟩
 rintro vs ah ⟨b,rfl,hz,hK⟩ hc φ s ws hA hv:_
 obtain⟨w,rfl,t,rfl⟩:=ei hv
 refine aD (Hn (by simp;exists hz) fun k=>?_)
 have f:=hA.fresh (bC s.heap)
 have S:aV X.G X.c X.c.pv s φ {s with heap:=s.heap.push (qy b.toArray t ((b.toArray.size:Int)-1)),toks:=k} φ ah:=aV.keeps hA (cF _ _)
 refine⟨φ,ah,S,s.heap.objs.size,b,t,rfl,by simpa using eO _ rfl,f.2.2,f.1,f.2.1,hz,hK⟩
end
end Lake
end
section
namespace Lake
open JL
section
variable {aq:Program}{w:World}{A:Around}{K:Frag}{C fI:Addr}{R:Result→aG→Prop}{h:Heap}{g:Array GenState}{d:Drawn}{t:Nat}{os:OsState}
theorem E9:∀ {aW:List Value} (X:K.In h) (hm:makesIn K C=true) (hi:findIn K (.ref C) "__init__"=some (some (.ref fI))) (hf:typeIn K (.ref fI)=some (.type "function")) (hq:bw (model aq w) (A.under (.builtin "type.__call__" ⟨.ref C::aW,[]⟩)) (.call (.ref fI) ⟨.ref (h.objs.size+1)::aW,[]⟩) (InitBack (h.objs.size+1) R) ⟨(h.push emptyDict).push (instObj C h.objs.size),g,d,t,os⟩),bw (model aq w) A (.call (.ref C) ⟨aW,[]⟩) R ⟨h,g,d,t,os⟩:=by
 revert aq w A K C fI R h g d t os
 rintro aq w A K C fI R h g d t os:(_)
 rintro aW:(_)
 w_up
 have Y:=makes_of (M:=model aq w) X hm
 have li:=looks_findIn (M:=model aq w) X hi
 obtain⟨⟨oc,od,cd,sl,hC,e1,e2,e4⟩,made,base,self,top,call,typ⟩:=id Y
 have Iy:Looks (model aq w) h (mroOf (.ref C)) cd.mro:=((Looks.ld (part:=none) hC).andThen .now).andThen .now
 refine bU rfl ?_
 show wpAny _ _ _ _ (callAny (.ref C) _) _
 unfold callAny
 refine leaf (ku hC ?_)
 show wpAny _ _ _ _ (callAny.viaDunder (.ref C) _) _
 unfold callAny.viaDunder
 refine leaf (call.here ?_)
 dsimp only
 rw[tc_bind]
 refine known (known ?_)
 refine ao (a:=Fin.again (.call (.builtin "type.__call__") ⟨.ref C::aW,[]⟩)) (And.intro rfl ?_)
 refine bU rfl ?_
 show wpAny _ _ _ _ (do checkBuiltinCall "type.__call__" ⟨.ref C::aW,[]⟩;again (.builtin "type.__call__" ⟨.ref C::aW,[]⟩)) _
 refine leaf (check_slot tc_kind tc_split typ (tc_args _ _ _) (ao ⟨Code.quiet_builtin _ (by decide +kernel),ee entry_typeCall ?_⟩))
 unfold Builtin.«type.__call__»
 refine gR rfl ?_
 refine leaf (Iy.here (gR e4 (leaf (made.here ?_))))
 refine ak (ao (ak (bo (dz (Cd (new_K Y li (.inl rfl) ?_))))))
 have k:∀b o,h.get? b=some o→((h.push emptyDict).push (instObj C h.objs.size)).get? b=some o:=fun b o e=>fb _ (fb _ e)
 have hx:((h.push emptyDict).push (instObj C h.objs.size)).get? (h.objs.size+1)=some (instObj C h.objs.size):=by heap_get
 have t1:Looks (model aq w) ((h.push emptyDict).push (instObj C h.objs.size)) (typeOf (.ref (h.objs.size+1))) (.ref C):=(Looks.ld hx).andThen .now
 have i1:Looks (model aq w) ((h.push emptyDict).push (instObj C h.objs.size)) (isInstance (.ref (h.objs.size+1)) (.ref C)) true:=t1.andThen (self.keeps k)
 refine leaf (i1.here ?_)
 refine gR rfl ?_
 refine dw (R:=fun r s'=>r=some .none∧R (.ok (.ret (.ref (h.objs.size+1)))) s') ?_ ?_
 ·unfold callSpecial? specialOf;refine ak (leaf (t1.here (aD ((li.keeps k).here ?_))));refine bo (leaf (((bind_fn X (.ref (h.objs.size+1)) hf).keeps k).here ?_));refine seq (R:=fun r s'=>r=.none∧R (.ok (.ret (.ref (h.objs.size+1)))) s') (dz (dR hq fun r s' z=>?_)) ?_
  ·rcases r with e|(v|_|_|_)<;>first|exact z|exact z.elim
  rintro _ s' ⟨rfl,z⟩:_;exact ao ⟨rfl,z⟩
 rintro _ s' ⟨rfl,z⟩:_
 exact gR rfl (ao z)
end
section
variable {σ:St}{Q:LV→St→Prop}{ep:EP}
theorem aV.Ku(hA:At φ s σ c G)(C:Addr)(t t':Tag) :
  aV G c c.pv s φ {s with heap:=(s.heap.push emptyDict).push (instObj C s.heap.objs.size)} φ (upd (upd σ s.heap.objs.size (t',.dK (s.heap.objs.size+1))) (s.heap.objs.size+1) (t,.inst C s.heap.objs.size [])):=by
 have ax:aV G c c.pv s φ {s with heap:=s.heap.push emptyDict} φ (upd σ s.heap.objs.size (t',.dK (s.heap.objs.size+1))):=
  aV.add (n:=s.toks) hA (cF _ _) (bC s.heap) ⟨_,eO _ rfl⟩
 have e:(s.heap.push emptyDict).objs.size=s.heap.objs.size+1:=Heap.size_push ..
 have hn:=bC (s.heap.push emptyDict)
 have hg:((s.heap.push emptyDict).push (instObj C s.heap.objs.size)).get? (s.heap.push emptyDict).objs.size=some (instObj C s.heap.objs.size):=eO _ rfl
 rw[e]at hn hg
 refine ax.trans (aV.add (s:={s with heap:=s.heap.push emptyDict}) (n:=s.toks) ax.at_ (cF _ _) hn ⟨hg,⟨t',?_⟩,[],0,?_,rfl⟩)
 ·rw[av _ _ (m9 (Nat.lt_succ_self _)),aI]
 exact fb _ (eO _ rfl)
theorem dM.create{n:Nat}(h:dM (n+1) c){aW:List Value}:dM n ⟨c.A.under (.builtin "type.__call__" ⟨.ref C::aW,[]⟩),c.bA,c.own,c.out⟩:=by
 refine⟨?_,h.handled,?_,?_⟩
 ·exact h.frames
 ·have:=h.depth;show c.A.depth+1+10*n≤990;exists this
 have:=h.units
 show c.A.units+1+20*n≤9800;exists this
theorem cH.ctx{P:List Addr}{e:Value}(hs:c'.bA=c.bA)(hp:c'.pv=c.pv)(z:cH G c' P s φ ep e s'):cH G c P s φ ep e s':=by
 obtain⟨a,C,t,B,aH,σ',h1,y,h3,h4⟩:=z
 refine⟨a,C,t,B,aH,σ',h1,⟨y.rep,y.stays,hp▸y.pv,y.ext,y.bT,?_,y.os,y.gens⟩,h3,?_⟩
 ·have:=y.bA;rw[hs,hp]at this;exact this
 unfold QC at h4 ⊢
 rw[hs]at h4
 exact h4
theorem aV.ctx{P:List Addr}(hs:c'.bA=c.bA)(hp:c'.pv=c.pv)(z:aV G c' P s φ s' aH σ'):aV G c P s φ s' aH σ':=
 ⟨⟨z.at_.rep,hp▸z.at_.pv,by have:=z.at_.bA;rw[hs,hp]at this;exact this,z.at_.gens⟩,z.ext,z.bT,z.os⟩
theorem CallT.make{n:Nat}{fI:Addr}(hm:makesIn G.K C=true)(hi:findIn G.K (.ref C) "__init__"=some (some (.ref fI)))(hf:typeIn G.K (.ref fI)=some (.type "function"))
 (h:∀x dx,σ x=none→σ dx=none→x≠dx→CallT n ep (.ref fI) G (upd (upd σ dx (t',.dK x)) x (t,.inst C dx [])) (fun v σ'=>v=.none∧Q (.ref x) σ') (.ref x::az)):CallT (n+1) ep (.ref C) G σ Q az:=fun c φ s vs hc hA hv=>by
 obtain⟨hp,g,d,tk,os⟩:=s
 have S:=aV.Ku hA C t t'
 refine E9 hA.rep.K hm hi hf ?_
 have f1:=(hA.fresh (bC hp)).2.1
 have e:(hp.push emptyDict).objs.size=hp.objs.size+1:=Heap.size_push ..
 have f2:σ (hp.objs.size+1)=none:=(hA.fresh (jz (Nat.le_succ _))).2.1
 have run:=h (hp.objs.size+1) hp.objs.size f2 f1 (Nat.ne_of_gt (Nat.lt_succ_self _)) _ φ _ (.ref (hp.objs.size+1)::vs) (hc.create (C:=C) (aW:=vs))
  ⟨S.at_.rep,S.at_.pv,S.at_.bA,S.at_.gens⟩ (bg.cZ.mpr ⟨rfl,hv⟩)
 refine dR run fun r s' z=>iC.go z (fun v aH σ' lv S' r' hh=>?_) fun e z=>?_
 rotate_left
 ·have z:cH G ⟨c.A.under (.builtin "type.__call__" ⟨.ref C::vs,[]⟩),c.bA,c.own,c.out⟩ c.pv _ φ ep e s':=z;exact(cH.ctx (c:=c) (c':=⟨c.A.under (.builtin "type.__call__" ⟨.ref C::vs,[]⟩),c.bA,c.own,c.out⟩) rfl rfl z).up S
 obtain⟨h1,h2⟩:=hh
 subst h1
 have r':v=.none:=r'
 exact⟨r',aH,σ',.ref (hp.objs.size+1),S.trans (aV.ctx (c:=c) (c':=⟨c.A.under (.builtin "type.__call__" ⟨.ref C::vs,[]⟩),c.bA,c.own,c.out⟩) rfl rfl S'),rfl,h2⟩
end
end Lake
end
section
open PySem PySem.W PySem.Calls PyProof.Rows Builtin Builtin.ObjectAttr
namespace JL
noncomputable def gh(K:Frag)(C:Addr):Bool:=match K.lookup C with
 |some ⟨_,_,.cls cd,sl⟩=>!cd.abstract&&!cd.hasDel&&(sl.toList[4]?).join==some (.builtin "ValueError.__new__")&&!cd.mro.isEmpty&&cd.mro.contains (.ref C)&&cd.mro.contains (.type "ValueError")&&cd.mro.contains (.type "BaseException") &&
   !cd.mro.contains (.type "AttributeError")&&!cd.mro.contains (.type "NameError")&&specialIn K (.ref C) "__call__"==some (some (.builtin "type.__call__"))&&instIn K (.ref C) (.type "type")==some true&&cd.hasDict
 |_=>false
structure Exc(M:Model)(h:Heap)(C:Addr):Prop where
 obj:∃oc od cd sl,h.get? C=some ⟨oc,od,.cls cd,sl⟩∧cd.abstract=false∧cd.hasDel=false∧cd.mro.isEmpty=false∧cd.hasDict=true∧Looks M h (mroOf (.ref C)) cd.mro
 made:Looks M h (Bind.madeBy (.ref C)) (some "ValueError.__new__")
 base:Looks M h (Bind.staticBase (.ref C)) (.ref C)
 self:Looks M h (isSubtype (.ref C) (.ref C)) true
 val:Looks M h (isSubtype (.ref C) (.type "ValueError")) true
 top:Looks M h (isSubtype (.ref C) (.type "BaseException")) true
 noAttr:Looks M h (isSubtype (.ref C) (.type "AttributeError")) false
 noName:Looks M h (isSubtype (.ref C) (.type "NameError")) false
 call:Looks M h (specialOf (.ref C) "__call__") (some (.builtin "type.__call__"))
 typ:Looks M h (isInstance (.ref C) (.type "type")) true
theorem nJ{a b:Bool}(h:(a&&b)=true):a=true∧b=true:=Bool.and_eq_true_iff.mp h
theorem zM{a:Bool}(h:(!a)=true):a=false:=by simpa using h
theorem vE{K:Frag}{M:Model}{h:Heap}(X:K.In h){C:Addr}(e:gh K C=true):Exc M h C:=by
 revert X e
 revert K M h C
 rintro K M h:(_)
 rintro C:(_)
 intro X e
 cases ho:K.lookup C with
 |none=>unfold gh at e;rw[ho]at e;cases e
 |some o =>
 obtain⟨oc,od,dt,sl⟩:=o
 cases dt with
 |cls cd =>
  unfold gh at e;rw[ho]at e
  have e:(!cd.abstract&&!cd.hasDel&&(sl.toList[4]?).join==some (.builtin "ValueError.__new__")&&!cd.mro.isEmpty&&cd.mro.contains (.ref C)&&cd.mro.contains (.type "ValueError")&&cd.mro.contains (.type "BaseException") &&
   !cd.mro.contains (.type "AttributeError")&&!cd.mro.contains (.type "NameError")&&specialIn K (.ref C) "__call__"==some (some (.builtin "type.__call__"))&&instIn K (.ref C) (.type "type")==some true&&cd.hasDict)=true:=e
  obtain⟨e,Mq⟩:=nJ e;obtain⟨e,Mr⟩:=nJ e;obtain⟨e,Ms⟩:=nJ e;obtain⟨e,e9⟩:=nJ e;obtain⟨e,e8⟩:=nJ e;obtain⟨e,e7⟩:=nJ e;obtain⟨e,e6⟩:=nJ e;obtain⟨e,e5⟩:=nJ e;obtain⟨e,e4⟩:=nJ e;obtain⟨e,e3⟩:=nJ e;obtain⟨e1,e2⟩:=nJ e;have e1:=zM e1;have e2:=zM e2;have e3:=eq_of_beq e3;have e4:=zM e4;have e8:=zM e8;have e9:=zM e9;have Ms:=eq_of_beq Ms;have Mr:=eq_of_beq Mr;have hc:clsIn K C=some cd:=by unfold clsIn;rw[ho]
  have hm:Looks M h (mroOf (.ref C)) cd.mro:=(looks_clsIn X hc).andThen .now
  obtain⟨c,l,hl⟩:∃c l,cd.mro=c::l:=by
   cases q:cd.mro with
   |nil=>nomatch q,e4
   |cons c l=>exact⟨c,l,rfl⟩
  have made:Looks M h (Bind.madeBy (.ref C)) (some "ValueError.__new__"):=by
   intro A Q E s k q;unfold Bind.madeBy;refine aM (hm A _ E s k ?_);rw[hl,forIn_cons];refine aM (aM (aM (aM (wpAny_loadPart (k _ _ (X _ _ ho)) (cA ?_)))));dsimp only;rw[← Array.getElem?_toList,e3];exact cA (cA (cA q))
  have mro (b:Value) (r:Bool) (hr:cd.mro.contains b=r):Looks M h (isSubtype (.ref C) b) r:=looks_mroIn X (by simp only[mroIn,hc,Option.bind_some,e4,qf,if_false,hr]);refine⟨⟨oc,od,cd,sl,X _ _ ho,e1,e2,e4,Mq,hm⟩,made,?_,mro _ _ e5,mro _ _ e6,mro _ _ e7,mro _ _ e8,mro _ _ e9,looks_specialIn X Ms,looks_instIn X Mr⟩;intro A Q E s k q;unfold Bind.staticBase;refine aM (hm A _ E s k ?_);rw[hl,forIn_cons];exact aM (aM (aM (made A _ E s k (cA (cA (cA q))))))
 |_=>unfold gh at e;rw[ho]at e;cases e
section
variable {aq:Program}{w:World}{A:Around}{C:Addr}{R:Result→aG→Prop}{h:Heap}{g:Array GenState}{d:Drawn}{t:Nat}{os:OsState}
theorem Kv{aW:List Value}(Y:Exc (model aq w) h C)(hz:aW.length≤1000)
 (hq:R (.ok (.ret (.ref (h.objs.size+1)))) ⟨(h.push {cls:=.type "tuple",data:=.seq aW.toArray}).push (dh C h.objs.size none),g,d,t,os⟩) :
  codeAny (model aq w) A (.call (.builtin "ValueError.__new__") ⟨.ref C::aW,[]⟩) R ⟨h,g,d,t,os⟩:=by
 revert Y hz hq
 revert aq w A C R h g d t os aW
 rintro aq w A C R h g d t:(_)
 rintro os aW:(_)
 intro Y hz hq
 obtain⟨⟨oc,od,cd,sl,hC,e1,e2,e4,Mq,hm⟩,made,base,self,val,top,QW,QX,call,typ⟩:=Y
 have F:=F.excBase_ValueError
 refine codeAny_call_builtin_code (Code.quiet_builtin _ F.quiet) ?_
 have az:Bind.checkArgs "ValueError.__new__" ⟨.any,"ValueError","ValueError",.cls,[⟨"args",.varPos,false⟩,⟨"kwargs",.varKw,false⟩]⟩ ⟨.ref C::aW,[]⟩=pure ():=by k_in
 unfold checkBuiltinCall
 rw[F.newKind,F.newSplit,F.newRow]
 show wpAny _ _ (if("__new__"=="__new__")=true then _ else _) _ _ _
 refine bm_if_true rfl ?_
 refine aM (ks_wpAny_isType_cls hC rfl (cX rfl ?_))
 refine aM (val.here (cX rfl ?_))
 refine aM (base.here (aM (made.here ?_)))
 refine cX (bne_self_eq_false _) ?_
 refine er az ?_
 have Yw:=F.ends
 have Td:Looks (model aq w) h (Bind.madeHere "BaseException.__new__" (.ref C)) ():=base.andThen (made.andThen (Looks.of_pure (by rw[Option.map_some,F.canon];simp only[bne_self_eq_false,qf,if_false])))
 refine codeAny_builtinAt F.entry ?_
 unfold Builtin.«BaseException.__new__»
 refine PySem.wpAt_bind ?_
 show PySem.wpAt _ _ _ (stack >>= _) _ _ _
 refine PySem.wpAt_bind (PySem.wpAt_stack fun p below=>PySem.wpAt_of_wpAny ?_)
 wp_walk
 refine PySem.wpAt_of_wpAny ?_
 rw[F.owner]
 refine aM (ks_wpAny_isType_cls hC rfl (cX rfl ?_))
 refine aM (val.here (cX rfl (aM (Td.here ?_))))
 refine aM (aM (QW.here (cX rfl (aM (QX.here (cX rfl (cA ?_)))))))
 refine aM (wpAny_newTuple ?_ (by rw[dH];exists hz))
 show wpAny _ _ (newObj (.ref C) (.fields #[.ref h.objs.size,.none,.none,.none,.bool false,.none]) >>= _) _ _ _
 have vF:(h.push {cls:=.type "tuple",data:=.seq aW.toArray}).get? C=some ⟨oc,od,.cls cd,sl⟩:=fb _ hC
 have size:(h.push {cls:=.type "tuple",data:=.seq aW.toArray}).objs.size=h.objs.size+1:=Heap.size_push ..
 have Pg:wpAny (model aq w) (A.under (.builtin "ValueError.__new__" ⟨.ref C::aW,[]⟩)) (newObj (.ref C) (.fields #[.ref h.objs.size,.none,.none,.none,.bool false,.none]))
   (fun v s'=>v=.ref (h.objs.size+1)∧s'=⟨(h.push {cls:=.type "tuple",data:=.seq aW.toArray}).push (dh C h.objs.size none),g,d,t,os⟩) (fun e s'=>R (.error e) s') ⟨h.push {cls:=.type "tuple",data:=.seq aW.toArray},g,d,t,os⟩:=by
  unfold newObj;show wpAny _ _ (if(6:Nat)>sizeLine+2 then _ else _) _ _ _;rw[aY (by rw[dH];room)];show wpAny _ _ (newObjAsIs _ _ _) _ _ _;unfold newObjAsIs classHasDel;refine aM (wpAny_alloc (aM (aM (ku (fb _ vF) (cA ?_)))));rw[e2];refine cA ⟨?_,rfl⟩;rw[size]
 refine aM (wpAny_mono Pg (fun v s' k=>?_) fun _ _ e=>e)
 obtain⟨rfl,rfl⟩:=k
 exact cA hq
end
end JL
namespace Lake
open JL
section
variable {aq:Program}{w:World}{A:Around}{K:Frag}{C fI:Addr}{R:Result→aG→Prop}{h:Heap}{g:Array GenState}{d:Drawn}{t:Nat}{os:OsState}
theorem Hp{aW:List Value}(X:K.In h)(hm:gh K C=true)(hi:findIn K (.ref C) "__init__"=some (some (.ref fI)))(hf:typeIn K (.ref fI)=some (.type "function"))(hz:aW.length≤1000)
 (hq:bw (model aq w) (A.under (.builtin "type.__call__" ⟨.ref C::aW,[]⟩)) (.call (.ref fI) ⟨.ref (h.objs.size+1)::aW,[]⟩) (InitBack (h.objs.size+1) R) ⟨(h.push {cls:=.type "tuple",data:=.seq aW.toArray}).push (dh C h.objs.size none),g,d,t,os⟩) :
  bw (model aq w) A (.call (.ref C) ⟨aW,[]⟩) R ⟨h,g,d,t,os⟩:=by
 revert X hm hi hf hz hq
 revert aq w A K C fI R h g d t os aW
 rintro aq w A K C fI R h g d t os:(_)
 rintro aW:(_)
 intro X hm hi hf hz hq
 have Y:=vE (M:=model aq w) X hm
 have li:=looks_findIn (M:=model aq w) X hi
 obtain⟨⟨oc,od,cd,sl,hC,e1,e2,e4,Mq,Iy⟩,made,base,self,val,top,QW,QX,call,typ⟩:=id Y
 refine bU rfl ?_
 show wpAny _ _ _ _ (callAny (.ref C) _) _
 unfold callAny
 refine leaf (ku hC ?_)
 show wpAny _ _ _ _ (callAny.viaDunder (.ref C) _) _
 unfold callAny.viaDunder
 refine leaf (call.here ?_)
 dsimp only
 rw[tc_bind]
 refine known (known ?_)
 refine ao (a:=Fin.again (.call (.builtin "type.__call__") ⟨.ref C::aW,[]⟩)) (And.intro rfl ?_)
 refine bU rfl ?_
 show wpAny _ _ _ _ (do checkBuiltinCall "type.__call__" ⟨.ref C::aW,[]⟩;again (.builtin "type.__call__" ⟨.ref C::aW,[]⟩)) _
 refine leaf (check_slot tc_kind tc_split typ (tc_args _ _ _) (ao ⟨Code.quiet_builtin _ (by decide +kernel),ee entry_typeCall ?_⟩))
 unfold Builtin.«type.__call__»
 refine gR rfl ?_
 refine leaf (Iy.here (gR e4 (leaf (made.here ?_))))
 refine ak (ao (ak (bo (dz (Cd (Kv Y hz ?_))))))
 have k:∀b o,h.get? b=some o→((h.push {cls:=.type "tuple",data:=.seq aW.toArray}).push (dh C h.objs.size none)).get? b=some o:=fun b o e=>fb _ (fb _ e)
 have hx:((h.push {cls:=.type "tuple",data:=.seq aW.toArray}).push (dh C h.objs.size none)).get? (h.objs.size+1)=some (dh C h.objs.size none):=by heap_get
 have t1:Looks (model aq w) ((h.push {cls:=.type "tuple",data:=.seq aW.toArray}).push (dh C h.objs.size none)) (typeOf (.ref (h.objs.size+1))) (.ref C):=(Looks.ld hx).andThen .now
 have i1:Looks (model aq w) ((h.push {cls:=.type "tuple",data:=.seq aW.toArray}).push (dh C h.objs.size none)) (isInstance (.ref (h.objs.size+1)) (.ref C)) true:=t1.andThen (self.keeps k)
 refine leaf (i1.here ?_)
 refine gR rfl ?_
 refine dw (R:=fun r s'=>r=some .none∧R (.ok (.ret (.ref (h.objs.size+1)))) s') ?_ ?_
 ·unfold callSpecial? specialOf;refine ak (leaf (t1.here (aD ((li.keeps k).here ?_))));refine bo (leaf (((bind_fn X (.ref (h.objs.size+1)) hf).keeps k).here ?_));refine seq (R:=fun r s'=>r=.none∧R (.ok (.ret (.ref (h.objs.size+1)))) s') (dz (dR hq fun r s' z=>?_)) ?_
  ·rcases r with e|(v|_|_|_)<;>first|exact z|exact z.elim
  rintro _ s' ⟨rfl,z⟩:_;exact ao ⟨rfl,z⟩
 rintro _ s' ⟨rfl,z⟩:_
 exact gR rfl (ao z)
end
end Lake
end
section
open PySem PySem.W PySem.Calls PyProof.Rows Builtin Builtin.ObjectAttr
namespace JL
section
variable {aq:Program}{w:World}{A:Around}{E:bN}{s:aG}{C e t:Addr}{d:Option Addr}{K:Frag}
theorem uz(he:s.heap.get? e=some (dh C t d)):Looks (model aq w) s.heap (typeOf (.ref e)) (.ref C):=(Looks.ld he).andThen .now
theorem Hq{aW:List Value}{Q:bN}(Y:Exc (model aq w) s.heap C)(he:s.heap.get? e=some (dh C t d))(hz:aW.length≤1000)
 (h:∀h' t',h'.get? e=some (dh C t' d)→(∀b o,b≠e→s.heap.get? b=some o→h'.get? b=some o)→s.heap.get? t'=none→Q .none {s with heap:=h'}) :
  wpAny (model aq w) A (call (.builtin "ValueError.__init__") (.ref e::aW)) Q E s:=by
 revert Y he hz h
 revert aq w A E s C e t d aW Q
 rintro aq w A E s C e t d:(_)
 rintro aW Q:(_)
 intro Y he hz h
 have F:=F.excBase_ValueError
 have i1:Looks (model aq w) s.heap (isInstance (.ref e) (.type "ValueError")) true:=(uz he).andThen Y.val
 have Vr:=F.noStar
 obtain⟨hp,g,dr,tk,os⟩:=s
 have check:∀Q',Q' () ⟨hp,g,dr,tk,os⟩→wpAny (model aq w) A.in1 (checkBuiltinCall "ValueError.__init__" ⟨.ref e::aW,[]⟩) Q' E ⟨hp,g,dr,tk,os⟩:=fun Q' q=>by
  unfold checkBuiltinCall;rw[F.initKind,F.initSplit,F.initRow];refine aM (i1.here (cX rfl ?_));obtain⟨oc,od,cd,sl,hC,_⟩:=Y.obj;have nm:Looks (model aq w) hp (typeNameWhole (.ref C)) cd.name.toString:=((Looks.ld (part:=none) hC).andThen .now).andThen .now;unfold Bind.checkArgs;refine aM (aM ((uz he).here (aM (nm.here (cA ?_)))));refine aM (er (a:="ValueError") (by unfold Bind.printed;exact bh rfl) ?_);exact wpAny_onRaise (er (check_star_args _ _ _ _ _ _) q)
 refine wpAny_call (codeAny_call_builtin F.init.plain F.initEntry (check _ ?_))
 unfold Builtin.«BaseException.__init__»
 refine cX rfl ?_
 refine aM (wpAny_newTuple ?_ (by rw[dH];exists hz))
 have CV:(hp.push {cls:=.type "tuple",data:=.seq aW.toArray}).get? e=some (dh C t d):=fb _ he
 have CB:=mZ (Obj.mapFields (·.setIfInBounds 0 (.ref hp.objs.size))) CV rfl
 unfold BaseException.bexcPut
 refine aM (aM (jW (s:=⟨hp.push {cls:=.type "tuple",data:=.seq aW.toArray},g,dr,tk,os⟩) CV rfl (x:=.ref t) rfl ?_))
 refine aM (wj (s:=⟨hp.push {cls:=.type "tuple",data:=.seq aW.toArray},g,dr,tk,os⟩) CV rfl (by simp) ?_)
 refine wpAny_letGo (cA ?_)
 refine h _ hp.objs.size CB (fun b o hb q=>?_) (jz (fg _))
 exact(Heap.get?_update_other _ _ (Ne.symm hb)).trans (fb _ q)
end
end JL
end
section
open PySem PySem.W PySem.Calls PyProof.Rows Builtin Builtin.ObjectAttr
namespace JL
noncomputable def zN:Value→Bool
 |.ref _=>true
 |_=>false
noncomputable def Kw(l:List Value):Bool:=l.dropWhile zN==[.type "ValueError",.type "Exception",.type "BaseException",.type "object"]
noncomputable def mU(K:Frag)(C:Addr):Bool:=(clsIn K C).any fun cd=>Kw cd.mro&&cd.mro.contains (.type "object")&&!cd.mro.isEmpty
theorem CW(self:Value):∀ {l:List Value},l.dropWhile zN=[.type "ValueError",.type "Exception",.type "BaseException",.type "object"]→refuseLoop self "__setattr__" l=pure ():=by
 intro ll
 induction ll with
 |nil =>
  rintro e;cases e
 |cons v r ih =>
  rintro e;cases h:zN v with
  |true =>
   obtain⟨c,rfl⟩:∃c,v=.ref c:=by cases v<;>first|exact⟨_,rfl⟩|cases h
   rw[refuseLoop_ref];exact ih (by rw[List.dropWhile_cons,h]at e;exact e)
  |false =>
   rw[List.dropWhile_cons,h,aY %[|0]]at e;rw[e];exact PySem.F.store_ValueError.passes self
theorem xA:∀ {s:aG} {A:Around} {K:Frag} {aq:Program} {w:World} {x C:Addr} {R:Result→aG→Prop} {ox:Obj} {od:Option Obj} {name:Str} {tk:Tok} {v:Value} {r:Option Value} (X:K.In s.heap) (I:InstAt s.heap x ox C od) (hp:mU K C=true) (ht:takerIn K C name=some r) (h:∀b,wpAny (model aq w) A.in1 (match r with|some a=>setByDescriptor a (.ref x) v|none=>storeInOwnDict (.ref x) (.ref C) (.str name tk) name v b)
   (fun fin s'=>match fin with|.done f=>R (.ok f) s'|.again c'=>c'.quiet=true∧codeAny (model aq w) A c' R s') (fun e s'=>R (.error e) s') s),codeAny (model aq w) A (.call (.builtin "object.__setattr__") ⟨[.ref x,.str name tk,v],[]⟩) R s:=by
 rintro s A K aq w x C R ox od name tk:(_)
 rintro v r:(_)
 w_up
 have SF:=PySem.F.store_object
 refine Lake.ex1 (any_some hp) ?_
 rintro cd:(_)
 rintro⟨hc,ho⟩:_
 rw[jA,jA]at ho
 have ne:cd.mro.isEmpty=false:=by simpa using ho.2
 have sub:Looks (model aq w) s.heap (isInstance (.ref x) (.type "object")) true:=I.type.andThen (looks_mroIn X (by unfold mroIn;rw[hc,Option.bind_some,aY (by rw[ne];decide),ho.1.2]))
 refine codeAny_call_builtin SF.slot.plain SF.entry (@check_slot (model aq w) _ _ s "object.__setattr__" "object" "__setattr__" (.ref x) [.str name tk,v] [] _ SF.kind SF.split sub (SF.args (.ref x) (.str name tk) v) ?_)
 obtain⟨attr,ha,hr⟩:=Option.bind_eq_some_iff.mp ht
 have hm:Looks (model aq w) s.heap (mroOf (.ref C)) cd.mro:=(looks_clsIn X hc).andThen .now
 have L3:Looks (model aq w) s.heap (storeTaker? attr) r:=by
  cases attr with
  |none=>cases hr;exact .now
  |some a =>
   obtain⟨b,hb,rfl⟩:=Option.map_eq_some_iff.mp hr;refine(looks_takesIn X hb).andThen ?_;cases b<;>exact .now
 rw[osa_eq,refuse_eq]
 refine aM (aM (I.type.here (aM (hm.here ?_))))
 rw[CW _ (eq_of_beq ho.1.1)]
 refine cA (aM (I.type.here (aM ((looks_findIn X ha).here (aM (L3.here ?_))))))
 exact h _
theorem Hr{s:aG}{A:Around}{K:Frag}{aq:Program}{w:World}{x C t:Addr}{R:Result→aG→Prop}{name:Str}{tk:Tok}{v:Value}(X:K.In s.heap)
 (hx:s.heap.get? x=some (dh C t none))(hp:mU K C=true)(ht:takerIn K C name=some none)(hh:hasDictIn K C=true)
 (h:∀aN,aN=((s.heap.push {cls:=.type "dict",data:=.dict #[]}).update x fun o=>{o with dict:=some s.heap.objs.size})→∀h' n',Heap.SameBut s.heap.objs.size aN h'→
   h'.get? s.heap.objs.size=some (dictOf (putL name (PyData.keyHash w.params name) (.str name s.toks) v []) n')→R (.ok (.ret .none)) {s with heap:=h',toks:=s.toks+1}) :
  PySem.codeAny (model aq w) A (.call (.builtin "object.__setattr__") ⟨[.ref x,.str name tk,v],[]⟩) R s:=by
 revert X hx hp ht hh h
 revert s A K aq w x C t R name tk v
 rintro s A K aq w x C t R name tk v:(_)
 intro X hx hp ht hh h
 refine xA X (ox:=dh C t none) (od:=none) ⟨hx,rfl,rfl,trivial⟩ hp ht fun b=>?_
 obtain⟨cd,hc,dJ⟩:=any_some hh
 have D:(s.heap.push {cls:=.type "dict",data:=.dict #[]}).get? s.heap.objs.size=some (dictOf [] 0):=eO _ rfl
 have Ph:(s.heap.push {cls:=.type "dict",data:=.dict #[]}).get? x=some (dh C t none):=fb _ hx
 have ne:x≠s.heap.objs.size:=by first|exact Lake.cR (jz (fg _)) hx|exact Lake.cD (jz (fg _)) hx|exact Lake.iI (jz (fg _)) hx rfl|exact Lake.fG (jz (fg _)) hx rfl|exact(fun z=>by rw[z,jz (fg _)]at hx;cases hx)
 have Hs:((s.heap.push {cls:=.type "dict",data:=.dict #[]}).update x fun o=>{o with dict:=some s.heap.objs.size}).get? s.heap.objs.size=some (dictOf [] 0):=(Heap.get?_update_other _ _ ne).trans D
 refine PySem.wpAny_bind (PySem.wpAny_pure (PySem.wpAny_bind (PySem.wpAny_bind (wpAny_loadPart hx (PySem.wpAny_bind ((looks_clsIn X hc).here ?_))))))
 rw[dJ]
 refine PySem.wpAny_bind (wpAny_alloc (PySem.wpAny_bind (wpAny_update Ph (PySem.wpAny_pure (PySem.wpAny_bind (PySem.wpAny_pure (PySem.wpAny_bind ?_)))))))
 unfold nsSet
 refine PySem.wpAny_bind (PySem.wpAny_bind (wpAny_askSetting (PySem.wpAny_pure (PySem.wpAny_bind (wpAny_mkText (PySem.wpAny_bind (wpAny_loadPart Hs ?_)))))))
 dsimp only
 have c:(!([]:List DictEntry).toArray.any (·.key.isStr name)&&([]:List DictEntry).toArray.any (·.refKey))=false:=by rw[List.any_toArray,List.any_toArray];rfl
 rw[aRefKeyMayBeTheName_at,c]
 refine wpAny_updatePart Hs ?_
 have e1:Obj.putName name (PyData.keyHash w.params name) (.str name s.toks) v (dictOf [] 0)=dictOf (putL name (PyData.keyHash w.params name) (.str name s.toks) v []) (putN name [] 0):=putName_dict name _ _ v [] 0
 have D':(((s.heap.push {cls:=.type "dict",data:=.dict #[]}).update x fun o=>{o with dict:=some s.heap.objs.size}).update s.heap.objs.size (Obj.putName name (PyData.keyHash w.params name) (.str name s.toks) v)).get? s.heap.objs.size=some (dictOf (putL name (PyData.keyHash w.params name) (.str name s.toks) v []) (putN name [] 0)):=by rw[← e1];exact mZ _ Hs (by rw[e1];rfl)
 refine PySem.wpAny_bind (wpAny_lookBehind D' (pastItsLine_dict (by rw[List.size_toArray,dH];exact Nat.le_trans (Lake.jK ..) %[|0])) ?_)
 exact PySem.wpAny_pure (h _ rfl _ _ (lz ..) D')
end JL
namespace Lake
open JL
section
variable {X:Fx}{ρ:Loc}{σ:St}{Q:LV→St→Prop}{ep:EP}
theorem CX(h:At φ s σ c G){x:Addr}{d:Option Addr}{m:Nat}(e:σ x=some (t,.exc C d m)):∃u,s.heap.get? x=some (dh C u d):=(h.rep.ob _ _ _ e).1
theorem Mt{x:Addr}{c:Tag×LO}(e:σ x=some c):upd σ x c=σ:=by
 funext b;unfold upd;split
 ·rename_i z;rw[z,e]
 rfl
theorem At.Kx{G:Gd}{c:Ctx}{φ:FZ}{s:aG}(h:At φ s σ c G){x C u:Addr}{d:Option Addr}{m:Nat}{t:Tag}{h':Heap}{n:Nat}(e:σ x=some (t,.exc C d m))
 (k:∀b o,b≠x→s.heap.get? b=some o→h'.get? b=some o)(hx:h'.get? x=some (dh C u d)):aV G c c.pv s φ {s with heap:=h',toks:=n} φ σ:=by
 revert h e k hx
 revert σ G c φ s x C u d m t h' n
 rintro σ G c φ s x C u d m t h':(_)
 rintro n:(_)
 intro h e k hx
 have np:∀b∈c.pv,b≠x:=fun b hb z=>h.mM e (z▸hb)
 have pk:eH c.pv s.heap h':=fun b hb o q=>⟨o,k b o (np b hb) q,.inl rfl⟩
 refine⟨⟨⟨h.rep.base,fun b o q=>⟨k b o (fun z=>?_) (h.rep.fz b o q).1,(h.rep.fz b o q).2⟩,fun a t' o q=>?_⟩,fun b hb=>⟨(h.pv b hb).1,(h.pv b hb).2.1,?_⟩,h.bA.of pk,h.gens⟩,.refl _,pk,rfl⟩
 ·subst z;nomatch((h.rep.fz b o q).2),e
 ·by_cases z:a=x
  ·subst z;nomatch e,q;have y:=h.rep.ob _ _ _ e;refine⟨⟨u,hx⟩,fun dx e'=>?_⟩;obtain⟨⟨u',h1⟩,es,n,h2,h3⟩:=y.2 dx e';exact⟨⟨u',h1⟩,es,n,k _ _ (by first|exact Lake.cR e h1|exact Lake.cD e h1|exact Lake.iI e h1 rfl|exact Lake.fG e h1 rfl|exact(fun z=>by rw[z,e]at h1;cases h1)) h2,h3⟩
  refine(h.rep.ob a t' o q).fR (its:=[x]) (fun b o' hb q'=>k b o' (fun z=>hb (z▸.head _)) q') (fun z'=>z (dE z')) fun dx q' hm=>?_;obtain⟨u',h1⟩:=(h.rep.ob a t' o q).dx q';rw[dE hm,e]at h1;cases h1
 obtain⟨o,ho,hd⟩:=(h.pv b hb).2.2;exact⟨o,k b o (np b hb) ho,hd⟩
theorem aV.Mu(hA:At φ s σ c G)(C:Addr)(t:Tag)(o:Obj) :
  aV G c c.pv s φ {s with heap:=(s.heap.push o).push (dh C s.heap.objs.size none)} φ (upd σ (s.heap.objs.size+1) (t,.exc C none 0)):=by
 have ax:aV G c c.pv s φ {s with heap:=s.heap.push o} φ σ:=aV.keeps (n:=s.toks) hA (cF _ _)
 have e:(s.heap.push o).objs.size=s.heap.objs.size+1:=Heap.size_push ..
 have hn:=bC (s.heap.push o)
 have hg:((s.heap.push o).push (dh C s.heap.objs.size none)).get? (s.heap.push o).objs.size=some (dh C s.heap.objs.size none):=eO _ rfl
 rw[e]at hn hg
 exact ax.trans (aV.add (s:={s with heap:=s.heap.push o}) (n:=s.toks) ax.at_ (cF _ _) hn ⟨⟨_,hg⟩,fun dx q=>by cases q⟩)
theorem CallT.By{n:Nat}{fI:Addr}(hm:gh G.K C=true)(hi:findIn G.K (.ref C) "__init__"=some (some (.ref fI)))(hf:typeIn G.K (.ref fI)=some (.type "function"))
 (hz:az.length≤1000)(h:∀x,σ x=none→CallT n ep (.ref fI) G (upd σ x (t,.exc C none 0)) (fun v σ'=>v=.none∧Q (.ref x) σ') (.ref x::az)):CallT (n+1) ep (.ref C) G σ Q az:=fun c φ s vs hc hA hv=>by
 obtain⟨hp,g,d,tk,os⟩:=s
 have S:=aV.Mu hA C t {cls:=.type "tuple",data:=.seq vs.toArray}
 refine Hp hA.rep.K hm hi hf (by rw[hv.length];exact hz) ?_
 have e:(hp.push {cls:=.type "tuple",data:=.seq vs.toArray}).objs.size=hp.objs.size+1:=Heap.size_push ..
 have f2:σ (hp.objs.size+1)=none:=(hA.fresh (jz (Nat.le_succ _))).2.1
 have run:=h (hp.objs.size+1) f2 _ φ _ (.ref (hp.objs.size+1)::vs) (hc.create (C:=C) (aW:=vs))
  ⟨S.at_.rep,S.at_.pv,S.at_.bA,S.at_.gens⟩ (bg.cZ.mpr ⟨rfl,hv⟩)
 refine dR run fun r s' z=>iC.go z (fun v aH σ' lv S' r' hh=>?_) fun e z=>?_
 rotate_left
 ·have z:cH G ⟨c.A.under (.builtin "type.__call__" ⟨.ref C::vs,[]⟩),c.bA,c.own,c.out⟩ c.pv _ φ ep e s':=z;exact(cH.ctx (c:=c) (c':=⟨c.A.under (.builtin "type.__call__" ⟨.ref C::vs,[]⟩),c.bA,c.own,c.out⟩) rfl rfl z).up S
 obtain⟨h1,h2⟩:=hh
 subst h1
 have r':v=.none:=r'
 exact⟨r',aH,σ',.ref (hp.objs.size+1),S.trans (aV.ctx (c:=c) (c':=⟨c.A.under (.builtin "type.__call__" ⟨.ref C::vs,[]⟩),c.bA,c.own,c.out⟩) rfl rfl S'),rfl,h2⟩
theorem zO{x:Addr}{d:Option Addr}{m:Nat}(e:σ x=some (t,.exc C d m))(hm:gh X.G.K C=true)(hz:az.length≤1000)(h:Q .none σ) :
  bV σ X ep Q (.ref x::az) (.builtin "ValueError.__init__"):=fun hc φ s vs hA hv=>by
 obtain⟨w,r,rfl,h1,h2⟩:=hv.cons_inv
 have h1:w=.ref x:=h1
 subst h1
 obtain⟨u,hx⟩:=CX hA e
 refine aD (Hq (vE hA.rep.K hm) hx (by rw[h2.length];exact hz) fun h' t' tN k _=>?_)
 exact⟨φ,σ,.none,hA.Kx (n:=s.toks) e k tN,rfl,h⟩
theorem CY:∀ {QU:St→Prop} {name:Str} {a C:Addr} {m:Nat} {t t':Tag} {v:LV} (e:σ a=some (t,.exc C none m)) (hp:mU X.G.K C=true) (hh:hasDictIn X.G.K C=true) (hs:findIn X.G.K (.ref C) "__setattr__"=some (some (.builtin "object.__setattr__"))) (hn:findIn X.G.K (.ref C) name=some none) (h:∀dx,σ dx=none→dx≠a→QU (upd (upd σ dx (t',.dK a)) a (t,.exc C (some dx) 1))),OU X (fun o v=>setAttr o name v) (.ref a) v σ QU ep:=by
 revert X σ ep
 rintro X σ ep QU name a C m t:(_)
 rintro t' v:(_)
 w_up
 intro _
 rintro φ s va:(_)
 rintro vb:(_)
 intro hA ra rb
 have ra:va=.ref a:=ra
 subst ra
 refine Lake.ex1 (CX hA e) ?_
 rintro u:(_)
 intro hx
 refine aD (set_plain hA.rep.K (ox:=dh C u none) (od:=none) ⟨hx,rfl,rfl,trivial⟩ hs ?_)
 refine Hr (s:={s with toks:=s.toks+1}) hA.rep.K hx hp (uj hn) hh ?_
 rintro aN:(_)
 intro iP
 rintro h' n':(_)
 intro hs hd
 have nu:=bC s.heap
 obtain⟨f1,f2,f3⟩:=hA.fresh nu
 have ne:s.heap.objs.size≠a:=by first|exact Lake.cR e f2|exact Lake.cD e f2|exact Lake.iI e f2 rfl|exact Lake.fG e f2 rfl|exact(fun z=>by rw[z,e]at f2;cases f2)
 have k:∀b o,b≠a→s.heap.get? b=some o→h'.get? b=some o:=fun b o z q=>by
  rw[hs.2 b (by first|exact Lake.cR nu q|exact Lake.cD nu q|exact Lake.iI nu q rfl|exact Lake.fG nu q rfl|exact(fun z=>by rw[z,nu]at q;cases q)),iP,Heap.get?_update_other _ _ (Ne.symm z)];exact fb _ q
 have tN:h'.get? a=some (dh C u (some s.heap.objs.size)):=by
  rw[hs.2 a (Ne.symm ne),iP];exact mZ _ (fb _ hx) rfl
 have np:∀b∈X.c.pv,b≠a:=fun b hb z=>hA.mM e (z▸hb)
 have pk:eH X.c.pv s.heap h':=fun b hb o q=>⟨o,k b o (np b hb) q,.inl rfl⟩
 refine⟨φ,upd (upd σ s.heap.objs.size (t',.dK a)) a (t,.exc C (some s.heap.objs.size) 1),(),⟨⟨⟨hA.rep.base,fun b o q=>⟨k b o (fun z=>?_) (hA.rep.fz b o q).1,?_⟩,fun b uh o q=>?_⟩,fun b hb=>⟨(hA.pv b hb).1,?_,?_⟩,hA.bA.of pk,hA.gens⟩,.refl _,pk,rfl⟩,trivial,h _ f2 ne⟩
 ·subst z;nomatch((hA.rep.fz b o q).2),e
 ·have z:b≠a:=by first|exact Lake.cR ((hA.rep.fz b o q).2) e|exact Lake.cD ((hA.rep.fz b o q).2) e|exact Lake.iI ((hA.rep.fz b o q).2) e rfl|exact Lake.fG ((hA.rep.fz b o q).2) e rfl|exact(fun z=>by subst z;rw[(hA.rep.fz b o q).2]at e;cases e)
  have z':b≠s.heap.objs.size:=by first|exact Lake.cR f1 q|exact Lake.cD f1 q|exact Lake.iI f1 q rfl|exact Lake.fG f1 q rfl|exact(fun z=>by rw[z,f1]at q;cases q)
  rw[av _ _ z,av _ _ z'];exact(hA.rep.fz b o q).2
 ·by_cases z:b=a
  ·subst z;nomatch aI,q;refine⟨⟨u,tN⟩,fun dx e'=>?_⟩;cases e';exact⟨⟨t',by rw[av _ _ ne,aI]⟩,_,_,hd,rfl,jK ..⟩
  rw[av _ _ z]at q;by_cases z':b=s.heap.objs.size
  ·subst z';rw[aI]at q;cases q;exact⟨_,hd⟩
  rw[av _ _ z']at q;have y:=hA.rep.ob b uh o q
  have y':OR X.G φ σ h' b o:=y.fR (its:=[a]) (fun b o' hb q'=>k b o' (fun z=>hb (z▸.head _)) q') (fun z'=>z (dE z')) fun dx q' hm=>by
   obtain⟨u',h1⟩:=y.dx q';rw[dE hm,e]at h1;cases h1
  refine y'.store fun c u y e'=>⟨u,?_⟩;rw[av,av]
  ·exact e'
  ·intro z';rw[z',f2]at e';cases e'
  intro z';rw[z',e]at e';cases e'
 ·have z':b≠s.heap.objs.size:=fun z=>f3 (z▸hb);rw[av _ _ (np b hb),av _ _ z'];exact(hA.pv b hb).2.1
 obtain⟨o,ho,hd⟩:=(hA.pv b hb).2.2;exact⟨o,k b o (np b hb) ho,hd⟩
end
end Lake
end
section
open PySem PySem.W PySem.Calls PyProof.Rows Builtin Builtin.ObjectAttr
namespace JL
theorem CZ{hh:Int}{tk:Tok}{v:Value}:∀ {es:List DictEntry},es.any (·.refKey)=false→(putL name hh (.str name tk) v es).any (·.refKey)=false:=by
 intro ll
 induction ll with
 |nil =>
  rintro _;exact rfl
 |cons e r ih =>
  rintro h;rw[any_cons,Bool.or_eq_false_iff]at h;unfold putL;split
  ·rw[any_cons,h.2,Bool.or_false];exact h.1
  rw[any_cons,ih h.2,Bool.or_false];exact h.1
theorem Kz{s:aG}{A:Around}{K:Frag}{aq:Program}{w:World}{x C u dx:Addr}{R:Result→aG→Prop}{name:Str}{tk:Tok}{v:Value}{es:List DictEntry}{n:Nat}(X:K.In s.heap)
 (hx:s.heap.get? x=some (dh C u (some dx)))(D:s.heap.get? dx=some (dictOf es n))(hp:mU K C=true)(ht:takerIn K C name=some none)(hh:hasDictIn K C=true)
 (hl:es.any (·.refKey)=false)(hz:es.length≤1000)
 (h:∀h' n',Heap.SameBut dx s.heap h'→h'.get? dx=some (dictOf (putL name (PyData.keyHash w.params name) (.str name s.toks) v es) n')→R (.ok (.ret .none)) {s with heap:=h',toks:=s.toks+1}) :
  PySem.codeAny (model aq w) A (.call (.builtin "object.__setattr__") ⟨[.ref x,.str name tk,v],[]⟩) R s:=by
 revert X hx D hp ht hh hl hz h
 revert s A K aq w x C u dx R name tk v es n
 rintro s A K aq w x C u dx R name tk:(_)
 rintro v es n:(_)
 intro X hx D hp ht hh hl hz h
 refine xA X (ox:=dh C u (some dx)) (od:=some (dictOf es n)) ⟨hx,rfl,rfl,D⟩ hp ht fun b=>?_
 obtain⟨cd,hc,dJ⟩:=any_some hh
 refine PySem.wpAny_bind (PySem.wpAny_pure (PySem.wpAny_bind (PySem.wpAny_bind (wpAny_loadPart hx (PySem.wpAny_bind ((looks_clsIn X hc).here ?_))))))
 rw[dJ]
 refine PySem.wpAny_pure (a:=some dx) (PySem.wpAny_bind (PySem.wpAny_pure (PySem.wpAny_bind ?_)))
 unfold nsSet
 refine PySem.wpAny_bind (PySem.wpAny_bind (wpAny_askSetting (PySem.wpAny_pure (PySem.wpAny_bind (wpAny_mkText (PySem.wpAny_bind (wpAny_loadPart D ?_)))))))
 dsimp only
 have c:(!es.toArray.any (·.key.isStr name)&&es.toArray.any (·.refKey))=false:=by
  have:es.toArray.any (·.refKey)=false:=by rw[List.any_toArray];exact hl
  rw[this,Bool.and_false]
 rw[aRefKeyMayBeTheName_at,c]
 refine wpAny_updatePart D ?_
 have e1:Obj.putName name (PyData.keyHash w.params name) (.str name s.toks) v (dictOf es n)=dictOf (putL name (PyData.keyHash w.params name) (.str name s.toks) v es) (putN name es n):=putName_dict name _ _ v es n
 have D':(s.heap.update dx (Obj.putName name (PyData.keyHash w.params name) (.str name s.toks) v)).get? dx=some (dictOf (putL name (PyData.keyHash w.params name) (.str name s.toks) v es) (putN name es n)):=by rw[← e1];exact mZ _ D (by rw[e1];rfl)
 refine PySem.wpAny_bind (wpAny_lookBehind D' (pastItsLine_dict ?_) ?_)
 ·rw[List.size_toArray,dH];have:(putL name (PyData.keyHash w.params name) (.str name s.toks) v es).length≤es.length+1:=Lake.jK ..;exists hz,this
 exact PySem.wpAny_pure (h _ _ (lz ..) D')
end JL
namespace Lake
open JL
section
variable {X:Fx}{ρ:Loc}{σ:St}{Q:LV→St→Prop}{ep:EP}
theorem Dc:∀ {QU:St→Prop} {name:Str} {a C dx:Addr} {m:Nat} {t:Tag} {v:LV} (e:σ a=some (t,.exc C (some dx) m)) (hp:mU X.G.K C=true) (hh:hasDictIn X.G.K C=true) (hs:findIn X.G.K (.ref C) "__setattr__"=some (some (.builtin "object.__setattr__"))) (hn:findIn X.G.K (.ref C) name=some none) (hm:m≤1000) (h:QU (upd σ a (t,.exc C (some dx) (m+1)))),OU X (fun o v=>setAttr o name v) (.ref a) v σ QU ep:=by
 revert X σ ep
 rintro X σ ep QU name a C dx m:(_)
 rintro t v:(_)
 w_up
 intro _
 rintro φ s va:(_)
 rintro vb:(_)
 intro hA ra rb
 have ra:va=.ref a:=ra
 subst ra
 obtain⟨⟨u,hx⟩,hd⟩:=hA.rep.ob _ _ _ e
 obtain⟨⟨td,h1⟩,es,n,D,hl,hz⟩:=hd _ rfl
 refine aD (set_plain hA.rep.K (ox:=dh C u (some dx)) (od:=some (dictOf es n)) ⟨hx,rfl,rfl,D⟩ hs ?_)
 refine Kz (s:={s with toks:=s.toks+1}) hA.rep.K hx D hp (uj hn) hh hl %[hm|hz] fun h' n' hs dJ=>?_
 have ne:a≠dx:=by first|exact Lake.cR h1 e|exact Lake.cD h1 e|exact Lake.iI h1 e rfl|exact Lake.fG h1 e rfl|exact(fun z=>by rw[z,h1]at e;cases e)
 have R':Rep X.G φ (upd σ a (t,.exc C (some dx) (m+1))) h':=by
  refine⟨hA.rep.base,fun b ob q=>?_,fun b uh rJ q=>?_⟩
  ·have z:b≠a:=by first|exact Lake.cR ((hA.rep.fz b ob q).2) e|exact Lake.cD ((hA.rep.fz b ob q).2) e|exact Lake.iI ((hA.rep.fz b ob q).2) e rfl|exact Lake.fG ((hA.rep.fz b ob q).2) e rfl|exact(fun z=>by subst z;rw[(hA.rep.fz b ob q).2]at e;cases e)
   have z':b≠dx:=by first|exact Lake.cR ((hA.rep.fz b ob q).2) h1|exact Lake.cD ((hA.rep.fz b ob q).2) h1|exact Lake.iI ((hA.rep.fz b ob q).2) h1 rfl|exact Lake.fG ((hA.rep.fz b ob q).2) h1 rfl|exact(fun z=>by subst z;rw[(hA.rep.fz b ob q).2]at h1;cases h1)
   exact⟨(hs.2 b z').trans (hA.rep.fz b ob q).1,by rw[av _ _ z];exact(hA.rep.fz b ob q).2⟩
  by_cases z:b=a
  ·subst z;nomatch aI,q;refine⟨⟨u,(hs.2 b ne).trans hx⟩,fun mi e'=>?_⟩;cases e';exact⟨⟨td,by rw[av _ _ (Ne.symm ne)];exact h1⟩,_,n',dJ,CZ hl,Nat.le_trans (jK ..) (Nat.succ_le_succ hz)⟩
  rw[av _ _ z]at q;have y:=hA.rep.ob b uh rJ q;by_cases zd:b=dx
  ·subst zd;rw[h1]at q;cases q;exact⟨_,dJ⟩
  have y':OR X.G φ σ h' b rJ:=y.sameBut hs zd fun mi q'=>by
   obtain⟨u',rK⟩:=y.dx q';intro z';subst z';rw[h1]at rK;cases rK;exact z rfl
  refine y'.store fun c u y e'=>⟨u,?_⟩;rw[av];exact e';intro z';subst z';nomatch e,e'
 exact⟨φ,_,(),hA.same (n:=s.toks+2) (hA.mM h1) hs R' (fun b hb=>by
  rw[av _ _ (fun z:b=a=>hA.mM e (z▸hb))];exact(hA.pv b hb).2.1),trivial,h⟩
theorem OR.two:∀ {G:Gd} {φ:FZ} {σ':St} {h h':Heap} {a:Addr} {o:LO} (k1:∀ob,h.get? a=some ob→h'.get? a=some ob) (k2:∀dx,o.Ei=some dx→∀ob,h.get? dx=some ob→h'.get? dx=some ob) (k3:∀dx,o.Ei=some dx→∃t,σ' dx=some (t,.dK a)) (x:OR G φ σ h a o),OR G φ σ' h' a o:=by
 revert σ
 rintro σ G φ σ' h h' a:(_)
 rintro o:(_)
 w_up
 cases o with
 |inst C dx fs=>obtain⟨h1,h2,es,n,h3,h4⟩:=x;exact⟨k1 _ h1,k3 _ rfl,es,n,k2 _ rfl _ h3,h4⟩
 |exc C d m=>obtain⟨⟨t,h1⟩,h2⟩:=x;exact⟨⟨t,k1 _ h1⟩,fun dx e=>let⟨h3,es,n,h4,h5⟩:=h2 dx e;⟨k3 _ e,es,n,k2 _ e _ h4,h5⟩⟩
 |dK y=>obtain⟨o,h1⟩:=x;exact⟨o,k1 _ h1⟩
 |list vs=>obtain⟨xs,⟨n,ho⟩,h2⟩:=x;exact⟨xs,⟨n,k1 _ ho⟩,h2⟩
 |dict es ep=>obtain⟨bf,⟨o,e,ho,r⟩,h2⟩:=x;exact⟨bf,⟨o,e,k1 _ ho,r⟩,h2⟩
 |eC es=>obtain⟨bf,⟨o,e,n,ho,r⟩,h2⟩:=x;exact⟨bf,⟨o,e,n,k1 _ ho,r⟩,h2⟩
 |eM b'=>exact k1 _ x
 |table q=>obtain⟨vs,h1,h2⟩:=x;exact⟨vs,k1 _ h1,h2⟩
noncomputable def i0(σ:St)(x:Addr)(d:Option Addr):St:=fun b=>if b=x∨d=some b then none else σ b
theorem Ht{x:Addr}{d:Option Addr}{b:Addr}{c:Tag×LO}(h:i0 σ x d b=some c):b≠x∧d≠some b∧σ b=some c:=by
 unfold i0 at h
 split at h
 ·cases h
 rename_i z;exact⟨fun y=>z (.inl y),fun y=>z (.inr y),h⟩
theorem Rep.drop{h:Heap}{x:Addr}{d:Option Addr}{m:Nat}(R:Rep G φ σ h)(e:σ x=some (t,.exc C d m))(k:∀b o,(φ b≠none∨(b≠x∧σ b≠none))→h.get? b=some o→h'.get? b=some o):Rep G φ (i0 σ x d) h':=by
 have y:=R.ob _ _ _ e
 refine⟨R.base,fun b o q=>⟨k b o (.inl (by rw[q];exact fun z=>by cases z)) (R.fz b o q).1,?_⟩,fun b t' o q=>?_⟩
 ·unfold i0;split
  ·rfl
  exact(R.fz b o q).2
 obtain⟨n1,n2,q⟩:=Ht q
 have z:=R.ob _ _ _ q
 refine z.two (fun ob w=>k b ob (.inr ⟨n1,by rw[q];exact fun z=>by cases z⟩) w) (fun dx w ob w'=>k dx ob (.inr ?_) w') fun dx w=>?_
 ·obtain⟨u,h1⟩:=z.dx w;exact⟨fun z=>(by rw[z,e]at h1;cases h1),fun z=>(by nomatch h1,z)⟩
 obtain⟨u,h1⟩:=z.dx w
 refine⟨u,?_⟩
 unfold i0
 rw[aY]
 ·exact h1
 rintro(z'|z')
 ·rw[z',e]at h1;cases h1
 obtain⟨u',h2⟩:=y.dx z'
 nomatch h2,h1
 exact n1 rfl
theorem zP{x:Addr}{d:Option Addr}(h:∀b,b≠x→d≠some b→σ' b=σ b)(hx:σ x=none)(hd:∀dx,d=some dx→σ dx=none):i0 σ' x d=σ:=by
 funext b
 unfold i0
 split
 ·rename_i z;rcases z with rfl|z
  ·exact hx.symm
  exact(hd _ z).symm
 rename_i z
 exact h b (fun w=>z (.inl w)) fun w=>z (.inr w)
theorem Fb:∀ {G:Gd} {c:Ctx} {P:List Addr} {φ:FZ} {s:aG} {aa:Env} {x C:Addr} {d:Option Addr} {m n:Nat} {t:Tag} {Qf:Flow→aG→Prop} (hc:dM n c) (hP:∀b∈P,b∈c.pv) (hA:At φ s σ c G) (e:σ x=some (t,.exc C d m)) (hm:gh G.K C=true) (ht:typeIn G.K (.ref C)=some (.type "type")) (jL:ep.fr=true) (hq:ep.Q C (i0 σ x d)),wpAny G.M c.A s (cH G c P s φ ep) (raiseStmt aa (some (pure (.ref x))) none) Qf:=by
 revert σ ep
 rintro σ ep G c P φ s aa x C d m:(_)
 rintro n t Qf:(_)
 w_up
 refine Lake.ex1 (CX hA e) ?_
 rintro u:(_)
 intro hx
 have Y:=vE (M:=G.M) hA.rep.K hm
 have ty:=uz (aq:=G.pg) (w:=G.w) hx
 have Fc:Looks G.M s.heap (isType (.ref x)) false:=(Looks.ld (part:=none) hx).andThen .now
 have tC:Looks G.M s.heap (typeOf (.ref C)) (.type "type"):=looks_typeIn hA.rep.K ht
 unfold raiseStmt
 refine known (known ?_)
 refine seq (R:=fun v s'=>v=.ref x∧s'=s) (bo ?_) ?_
 ·unfold excFromValue isExcClass;refine ak (leaf (Fc.here (ao ?_)));refine gR rfl (leaf ((ty.andThen Y.top).here (yO rfl (ao ⟨rfl,rfl⟩))))
 rintro v s' ⟨rfl,rfl⟩:_
 refine known (seq (R:=fun v bQ=>v=false∧bQ=s') (aD (Fc.here ⟨rfl,rfl⟩)) ?_)
 rintro v bQ ⟨rfl,rfl⟩:_
 refine gR rfl ?_
 refine seq (R:=fun v s'=>v=.ref x∧s'=bQ) ?_ ?_
 ·unfold raisedInstance;exact leaf (ty.here (leaf (tC.here (yO rfl (ao ⟨rfl,rfl⟩)))))
 rintro v s' ⟨rfl,rfl⟩:_
 refine seq (R:=fun _ bQ=>bQ=s') ?_ ?_
 ·unfold setFlight;refine leaf (jW hx rfl (x:=.none) rfl ?_);exact gR rfl (ao rfl)
 rintro _ bQ rfl
 refine aD (wpAny_raiseNew_none hc.handled ?_)
 have fr (b:Addr) (hb:b∈c.bA.filterMap (·.frame)):b∈c.pv∧∃o,bQ.heap.get? b=some o∧Fm o:=by
  obtain⟨ij,he,hf⟩:=List.mem_filterMap.mp hb;obtain⟨_,L,o,h2,h3,h4,h5⟩:=hA.bA ij he;nomatch hf,h2;exact⟨h3,o,h4,h5⟩
 have nx:∀b∈c.pv,b≠x:=fun b hb z=>hA.mM e (z▸hb)
 have keep:∀b o,b≠x→b∉c.bA.filterMap (·.frame)→bQ.heap.get? b=some o→(hideAll bQ.heap (x::c.bA.filterMap (·.frame))).get? b=some o:=fun b o h1 h2 h3 =>
  hideAll_get _ h3 fun z=>by
   rcases eb z with z|z
   ·exact h1 z
   exact h2 z
 have frames:∀l,(∀aa∈l,aa∈c.bA)→bQ.heap.FunFrames (hideAll bQ.heap (x::c.bA.filterMap (·.frame))) l:=fun l=>by
  induction l with
  |nil=>intro _;trivial
  |cons aa r ih =>
   intro hl;obtain⟨h1,L,o,h2,h3,h4,h5⟩:=hA.bA aa (hl aa (.head _));exact⟨h1,⟨L,o,h2,hideAll_none _ (.tail _ (List.mem_filterMap.mpr ⟨aa,hl aa (.head _),h2⟩)),h4,h5.nf⟩,ih fun e he=>hl e (.tail _ he)⟩
 refine⟨x,C,u,hideAll bQ.heap (x::c.bA.filterMap (·.frame)),φ,i0 σ x d,rfl,⟨hA.rep.drop e fun b o h1 h2=>?_,fun b o h1=>of_hideAll _ h1,fun b hb=>⟨(hA.pv b hb).1,?_,(hA.pv b hb).2.2,fun o h1 h2=>keep b o (nx b hb) (fun z=>?_) h1⟩,.refl _,.refl _ _,hA.bA,rfl,hA.gens⟩,hq,
  .inr (.inr ⟨jL,fun b o h1=>of_hideAll _ h1,hideAll_none _ (.head _),frames _ fun _ h=>h,_,_,hx,rfl,rfl,rfl,rfl⟩)⟩
 ·refine keep b o (fun z=>?_) (fun z=>?_) h2
  ·subst z;rcases h1 with h1|h1
   ·cases q:φ b with
    |none=>exact h1 q
    |some o'=>have:=(hA.rep.fz b o' q).2;nomatch e,this
   exact h1.1 rfl
  have:=(fr b z).1;rcases h1 with h1|h1
  ·exact h1 (hA.pv b this).1
  exact h1.2 (hA.pv b this).2.1
 ·unfold i0;split
  ·rfl
  exact(hA.pv b hb).2.1
 obtain⟨_,o',h3,h4⟩:=fr b z
 nomatch h1,h3
 exact h2 h4
theorem wR{y:Sem Value}{M:Model}{Qf:Flow→aG→Prop}(h:wpAny M A s E y (fun v aj=>wpAny M A aj E (raiseStmt aa (some (pure v)) none) Qf)):wpAny M A s E (raiseStmt aa (some y) none) Qf:=
 ak (aL h (fun _ _ k=>k) fun _ _ e=>e)
theorem Hu{ai:Pos}{QS:LF→Loc→St→Prop}(h:ET ep X ρ σ e (fun v ah=>∃x t C d m,v=.ref x∧ah x=some (t,.exc C d m)∧gh X.G.K C=true∧typeIn X.G.K (.ref C)=some (.type "type")∧ep.Q C (i0 ah x d)))(jL:ep.fr=true) :
  ST ep σ ρ X QS (exec (.Raise (some e) none ai) X.aa):=fun hc φ s hA hF=>by
 rw[arm_exec_Raise]
 refine b9 ?_
 refine wR (ak (bG.go (h hc φ s hA hF) (fun v aj aX ah lv ax bD hq=>b9 (ao ?_)) fun _ _ e=>e.bP))
 obtain⟨x,t,C,d,m,h1,h2,h3,h4,h5⟩:=hq
 subst h1
 have bD:v=.ref x:=bD
 subst bD
 exact aL (Fb (P:=X.c.out) hc uk ax.at_ h2 h3 h4 jL h5) (fun _ _ k=>k) fun _ _ e=>e.up ax.bP
end
end Lake
end
section
open PySem PySem.W PySem.Calls PyProof.Rows Builtin
namespace Lake
open JL
section
variable {M:Model}{A:Around}{E:bN}{s:aG}{aa:Env}
theorem kP:∀ {aZ orelse:Sem Flow} {h₀:ExceptHandler} {hs:List ExceptHandler} {Q:Flow→aG→Prop} (h:wpAny M A s (fun e aj=>wpAny M A aj E (noteFrame e aa) (fun _ aO=>wpAny M A aO E (setFlight e none) (fun _ bI=>wpAny M A bI E (handleBy e aa (h₀::hs)) Q))) aZ (fun f aj=>match f with|.next=>wpAny M A aj E orelse Q|f=>Q f aj)),wpAny M A s E (tryStmt false aZ (h₀::hs) orelse [] aa) Q:=by
 revert M A E s aa
 rintro M A E s aa aZ orelse h₀ hs:(_)
 rintro Q:(_)
 w_up
 unfold tryStmt
 refine ak (jQ (aL h (fun f aj aN=>?_) fun e aj aN=>?_))
 ·cases f<;>first|exact aN|exact ao aN
 exact ak (aL aN (fun _ _ bE=>ak bE) fun _ _ x=>x)
theorem rm:∀ {e:Value} {t:Expr} {aZ:List Stmt} {ai:Pos} {aW:List ExceptHandler} {Q:Flow→aG→Prop} (h:bw M (A.mark (some e)) (.handlers e [.ExceptHandler (some t) none [] ai] aa) (fun r aj=>match r with
   |.ok .brk=>bw M (A.mark (some e)) (.handlers e [.ExceptHandler none none aZ ai] aa) (fun r aO=>match r with
     |.ok f=>Q f aO
     |.error x=>fL M A aa E x aO) aj
   |.ok _=>wpAny M A aj E (handleBy e aa aW) Q
   |.error x=>fL M A aa E x aj) s) (DX:e≠byPass),wpAny M A s E (handleBy e aa (.ExceptHandler (some t) none aZ ai::aW)) Q:=by
 revert M A E s aa
 rintro M A E s aa e t aZ ai:(_)
 rintro aW Q:(_)
 w_up
 rw[handleBy]
 have Mv:(some e:Option Value)≠some byPass:=fun x=>DX (Option.some.inj x)
 refine ak (bo (nh (dR h (fun r aj aN=>?_)) Mv))
 cases r with
 |error x=>exact aN
 |ok f =>
  cases f with
  |brk =>
   refine known (gR rfl (ak (bo (nh (dR aN fun r aO bE=>?_) Mv))));cases r with
   |error x=>exact bE
   |ok f=>exact ao bE
  |_=>exact known (yO rfl aN)
end
section
variable {aq:Program}{w:World}{A:Around}{s:aG}{aa:Env}{R:Result→aG→Prop}
theorem pS{e:Value}{t:Expr}{ai:Pos}
 (h:wpAny (model aq w) A s (cE (model aq w) A aa fun x aj=>R (.error x) aj) (eval t aa) (fun c aj=>wpAny (model aq w) A aj (cE (model aq w) A aa fun x aO=>R (.error x) aO) (excMatches e c) (fun b aO=>R (.ok (if b then .brk else .next)) aO))) :
  bw (model aq w) A (.handlers e [.ExceptHandler (some t) none [] ai] aa) R s:=by
 refine bU rfl ?_
 show wpAny _ A s _ (do return Fin.done (← (handleWith e aa [.ExceptHandler (some t) none [] ai]).onRaise (fun x=>do noteFrame x aa;theTreesLotGoes x))) _
 refine ak (jI ?_)
 unfold handleWith
 exact b9 (ak (aL h (fun c aj aN=>b9 (ak (aL aN (fun b aO bE=>ao (ao bE)) fun _ _ x=>x))) fun _ _ x=>x))
theorem pq{e:Value}{Hv:Stmt}{ai:Pos}
 (h:wpAny (model aq w) A s (cE (model aq w) A aa fun x aj=>R (.error x) aj) (setFlight e none) (fun _ aj=>wpAny (model aq w) A aj (cE (model aq w) A aa fun x aO=>R (.error x) aO) (execs (Hv::aZ) aa) (fun f aO=>R (.ok f) aO))) :
  bw (model aq w) A (.handlers e [.ExceptHandler none none (Hv::aZ) ai] aa) R s:=by
 refine bU rfl ?_
 show wpAny _ A s _ (do return Fin.done (← (handleWith e aa [.ExceptHandler none none (Hv::aZ) ai]).onRaise (fun x=>do noteFrame x aa;theTreesLotGoes x))) _
 refine ak (jI ?_)
 unfold handleWith
 exact b9 (ak (aL h (fun _ aj aN=>aL aN (fun f aO bE=>ao bE) fun _ _ x=>x) fun _ _ x=>x))
end
theorem vG:∀ {K:Frag} {M:Model} {h:Heap} {a C:Addr} {oe:Obj} (X:K.In h) (hm:gh K C=true) (hn:instIn K (.ref C) (.type "tuple")=some false) (he:h.get? a=some oe) (hc:oe.cls=.ref C),Looks M h (excMatches (.ref a) (.ref C)) true:=by
 rintro K M h a C:(_)
 rintro oe:(_)
 w_up
 have Y:=vE (M:=M) X hm
 obtain⟨⟨oc,od,cd,sl,hC,_⟩,_,_,self,_,top,_⟩:=Y
 have tup:=looks_instIn (M:=M) X hn
 have QY:Looks M h (isType (.ref C)) true:=(Looks.ld (part:=none) hC).andThen .now
 have ty:Looks M h (typeOf (.ref a)) (.ref C):=by
  have L:Looks M h (typeOf (.ref a)) oe.cls:=(Looks.ld (part:=some headPart) he).andThen .now;rw[hc]at L;exact L
 intro A Q E s k q
 unfold excMatches
 refine PySem.wpAny_bind (tup A _ E s k ?_)
 refine PySem.wpAny_bind (PySem.wpAny_pure ?_)
 dsimp only
 rw[forIn_cons]
 unfold isExcClass
 refine PySem.wpAny_bind (PySem.wpAny_bind (PySem.wpAny_bind (PySem.wpAny_bind (QY A _ E s k (top A _ E s k (PySem.wpAny_pure (PySem.wpAny_pure ?_)))))))
 refine PySem.wpAny_bind (ty A _ E s k ?_)
 refine PySem.wpAny_bind (PySem.wpAny_bind (PySem.wpAny_bind (self A _ E s k (PySem.wpAny_pure (PySem.wpAny_pure (PySem.wpAny_pure q))))))
section
variable {X:Fx}{ρ:Loc}{σ:St}{Q:LF→Loc→St→Prop}{ep:EP}
theorem Bz:∀ {φ:FZ} {s:aG} {e:Expr} {wU np zQ cp rp ai:Pos} {x:Str} {C:Addr} {b:Bool} {kk:Nat} (hc:dM X.n X.c) (hF:cV X.aa X.c ρ φ s.heap) (h:TB VR s s φ X.G X.c X.c.pv ⟨false,fun C' σ'=>C'=C∧Q (.ret (.bool b)) ρ σ'⟩ (eval e X.aa) (fun _ ah=>Q .next ρ ah)) (hi:interactive X.aa=false) (hk:X.aa.kindOf x=some .globalImplicit) (hg:X.G.mg x=some (.ref C)) (hm:gh X.G.K C=true) (hn:instIn X.G.K (.ref C) (.type "tuple")=some false) (Ep:∃outer L,X.c.bA=X.aa::outer∧X.aa.frame=some L) (hs:autoParam (swapsWith e none wU.line X.aa=pure false) Jm.a0) (hd:autoParam ((x==("__debug__" : Str))=false) Jm.a1),LH X s φ (exec (.Try [.Expr e wU] [.ExceptHandler (some (.Name x np)) none [.Return (some (.Constant (.bool b) kk cp)) rp] zQ] [] [] ai) X.aa) Q ep:=by
 revert X ρ Q ep
 rintro X ρ Q ep φ s e wU np zQ cp rp ai x C b:(_)
 rintro kk:(_)
 w_up
 rw[arm_exec_Try]
 refine b9 (kP (gI (pF (bG.go h (fun v aj aX ah lv ax bD aN=>?_) fun v aj he=>?_) hi hs)))
 ·exact aD (wpAny_execs_nil (aD (wpAny_execs_nil ⟨aX,ah,ρ,.next,ax.bP,hF.step ax.ext ax.bT,rfl,aN⟩)))
 obtain⟨outer,L,hs,hf⟩:=Ep
 obtain⟨a,C',t,B,aH,σ',rfl,y,⟨rfl,hq⟩,hx⟩:=he
 have wD:X.c.A.frames=some (X.aa::outer):=by rw[hc.frames,hs]
 have go:∀i7,Heap.HeldW B X.c.bA a (.ref C') (.ref t) L i7→aj.heap.UpToSlots i7→wpAny X.G.M X.c.A {aj with heap:=i7} (cH X.G X.c X.c.out s φ ep) (setFlight (.ref a) none) (fun _ bI=>wpAny X.G.M X.c.A bI (cH X.G X.c X.c.out s φ ep) (handleBy (.ref a) X.aa [.ExceptHandler (some (.Name x np)) none [.Return (some (.Constant (.bool b) kk cp)) rp] zQ]) (ki X s φ Q)):=fun i7 Iz Pj=>by
  refine aD (wpAny_landsW Iz fun lH so Pk=>?_);have Te:=(y.turn (h':=i7) (fun _ h=>h) Iz.1 Pj).turn (h':=lH) (fun _ h=>h) so.1 Pk;obtain⟨oe,Vs,Fd⟩:=so.there;have Tf:X.G.K.In lH:=y.rep.K.keeps so.1;have Tg:lH.Ns mainGlobals X.G.mg:=y.rep.g.keeps so.1;refine rm (pS (aD (Name_function_global hF.fn hk (loadGlobal_global (by rw[hF.gl];exact Tg) hg ?_) hd))) (by intro q;cases q);refine aD ((vG Tf hm hn Vs Fd).here (pq ?_));refine aD (lands_againW so fun ui Mw Pl=>?_);have pw:=Te.turn (h':=ui) (fun _ h=>h) Mw.1 Pl;refine gI (jB (aD (Constant_bool ?_)));have Th:At aH {aj with heap:=ui} σ' X.c X.G:=⟨pw.rep.keeps pw.stays,fun b hb=>⟨(pw.pv b hb).1,(pw.pv b hb).2.1,(pw.pv b hb).2.2.1⟩,pw.bA,pw.gens⟩;have gU:aV X.G X.c X.c.pv s φ {aj with heap:=ui} aH σ':=⟨Th,pw.ext,pw.bT,pw.os⟩;exact⟨aH,σ',ρ,.ret (.bool b),gU.bP,hF.step gU.ext gU.bT,⟨_,rfl,rfl⟩,hq⟩
 rcases hx with mj|hK|hK
 ·rw[hs]at mj;exact aD (wpAny_looks_onW wD hf mj fun h' hh sl=>go h' (by rw[hs];exact hh) sl)
 ·obtain⟨Er,yY,LB,e1,e2,hh⟩:=hK;rw[hs]at e1;obtain⟨rfl,rfl⟩:=List.cons.inj e1;nomatch hf,e2;exact aD (wpAny_noteFrame_againW hf hh.2.2.2 (go aj.heap hh (.refl _)))
 obtain⟨q,_⟩:=hK
 cases q
theorem Mx{wU np zQ cp rp ai:Pos}{b:Bool}{kk:Nat}(h:ET ⟨false,fun C' σ'=>C'=C∧Q (.ret (.bool b)) ρ σ'⟩ X ρ σ e (fun _ ah=>Q .next ρ ah))(hi:interactive X.aa=false)
 (hk:X.aa.kindOf x=some .globalImplicit)(hg:X.G.mg x=some (.ref C))(hm:gh X.G.K C=true)(hn:instIn X.G.K (.ref C) (.type "tuple")=some false)(Ep:∃outer L,X.c.bA=X.aa::outer∧X.aa.frame=some L)
 (hs:autoParam (swapsWith e none wU.line X.aa=pure false) Jm.a0)(hd:autoParam ((x==("__debug__" : Str))=false) Jm.a1) :
  ST ep σ ρ X Q (exec (.Try [.Expr e wU] [.ExceptHandler (some (.Name x np)) none [.Return (some (.Constant (.bool b) kk cp)) rp] zQ] [] [] ai) X.aa):=fun hc φ s hA hF=>Bz hc hF (h hc φ s hA hF) hi hk hg hm hn Ep hs hd
theorem QZ{rp ai:Pos}{h₀:ExceptHandler}{hs:List ExceptHandler}(h:ET b0 X ρ σ e (fun v ah=>Q (.ret v) ρ ah)):ST ep σ ρ X Q (exec (.Try [.Return (some e) rp] (h₀::hs) [] [] ai) X.aa):=fun hc φ s hA hF=>by
 rw[arm_exec_Try]
 refine b9 (kP (gI (jB (bG.go (h hc φ s hA hF) (fun v aj aX ah lv ax bD aN=>?_) fun v aj he=>g6 he))))
 exact⟨aX,ah,ρ,.ret lv,ax.bP,hF.step ax.ext ax.bT,⟨v,rfl,bD⟩,aN⟩
end
end Lake
end
section
namespace Lake
theorem CallT.fnK{dV kV doc ct:Value}{an:Option Addr}{more:List (Str×Const)}{pm:Value}{ep:EP}{n:Nat}{names:List Str}{sn:List (Str×NameKind)}{G:Gd}{az:List LV}{σ:St}{Q:LV→St→Prop}{f:Addr}{fo:Obj}{nm qn:Str}{ps:Arguments}{cd:Value}{aZ:List Stmt}(hK:G.K.lookup f=some fo)(hd:fo.data=.func ⟨nm,qn,ps,.stmts aZ,⟨.function,sn,false,false,more⟩,mainGlobals,[],dV,kV,doc,pm,an,cd,ct,builtinsNs⟩)(gc:codeIn G.K cd qn=true)(dB:∀(vs:List Value),vs.length=az.length→bindArgs ⟨nm,qn,ps,.stmts aZ,⟨.function,sn,false,false,more⟩,mainGlobals,[],dV,kV,doc,pm,an,cd,ct,builtinsNs⟩ ⟨vs,[]⟩=pure (names.zip vs))(hlen:names.length=az.length)(fB:names.Nodup)(jg:(sn.all fun x=>!(x.2==.cell))=true)(lG:(names.all fun x=>sn.lookup x==some .local)=true)(h:∀(c:Ctx) (aa:Env),aa.scope.names=sn→(∃outer L,c.bA=aa::outer∧aa.frame=some L)→interactive aa=false→ST ep σ (fq names az) ⟨G,c,aa,n⟩ (fun lf _ σ'=>Q lf.val σ') (execs aZ aa)):CallT (n+1) ⟨false,ep.Q⟩ (.ref f) G σ Q az:=by
 refine CallT.QM hK hd rfl rfl gc dB hlen fB jg lG rfl rfl rfl (fun c aa hq=>hq.elim fun own F=>h c aa (by rw[F.scope]) F.bA ?_) rfl rfl rfl
 show(aa.scope.kind==.module&&_)=false
 rw[F.scope];rfl
theorem cu{k:NameKind}(h:aa.scope.names=sn)(e:(sn.lookup x==some k)=true):aa.kindOf x=some k:=by
 show aa.scope.names.lookup x=some k
 rw[h];exact eq_of_beq e
section
variable {X:Fx}{ρ:Loc}{σ:St}{Q:LV→St→Prop}{ep:EP}
theorem Y8{ep:EP}{X:Fx}{σ:St}(e:σ a=some (t,.list vs)){k:Int}(h0:0≤k)(hk:k<2 ^ 63)(hv:vs[k.toNat]?=some v){Q:LV→St→Prop}(h:Q v σ):GI X (.ref a) (.int k) σ Q ep:=dD (.inl (.inr ⟨_,_,rfl,e⟩)) h0 hk hv h
theorem Yx{a b:LV}(h:GI X a b σ Q ep):O2 σ b ep X Q getItem a:=fun hc φ s va vb hA ra rb=>(h hc φ s va vb hA ra rb).2
theorem Br.mk{b:Bool}{p q:Prop}(h1:b=true→p)(h2:b=false→q):Br b p q:=⟨h1,h2⟩
theorem Vt{ep:EP}{a:Int}{X:Fx}{b:Int}{σ:St}{Q:LV→St→Prop}(h:Q (.int (a*b)) σ)(h1 : -18446744073709551616<b)(h2:b<18446744073709551616):O2 σ (.int b) ep X Q (binaryOp .Mult) (.int a):=OT h (.of_right (PySem.intBits_le_64 h1 h2))
theorem Vu{a b:Int}(h:Q (.int (a ^ b.toNat)) σ)(h1 : -18446744073709551616<a)(h2:a<18446744073709551616)(hb:0≤b)(fV:b≤1000):O2 σ (.int b) ep X Q (binaryOp .Pow) (.int a):=OX h hb (by
 have:=PySem.intBits_le_64 h1 h2
 have h3:(Builtin.Int.intBits a:Int)≤64:=by exists this
 have h4:(Builtin.Int.intBits a:Int)*b≤64*1000:=Int.mul_le_mul h3 fV hb %[|0]
 have h5:(64*1000:Int)≤2 ^ 27:=by decide
 exact qg h4 h5)
theorem Fe{n:Nat}(h:n<1152921504606846976):n.log2/30+1≤300:=by
 have:n.log2<60:=by
  by_cases z:n=0
  ·subst z;decide
  exact(Nat.log2_lt z).mpr h
 (have w0:=Ln.gd (n.log2) (30) %[|0];revert this w0;room)
theorem UK{a b:Int}(h:Q (.int (a.fdiv b)) σ)(h1:0<b)(h2:b<1152921504606846976):O2 σ (.int b) ep X Q (binaryOp .FloorDiv) (.int a):=Lx h %[|h1] (by
 unfold Builtin.divisionGoesByPylong
 have:b.natAbs<1152921504606846976:=Int.ofNat_lt.mp (by rw[Int.natAbs_of_nonneg (Int.le_of_lt h1)];exact h2)
 have:=Fe this
 have z:(b==0)=false:=by simp;exists h1
 simp only[z,qf,if_false]
 rw[Bool.and_eq_false_iff]
 left
 simpa using this)
theorem Vv{a b:Int}(h:Q (.int (a.fmod b)) σ)(h1:0<b):O2 σ (.int b) ep X Q (binaryOp .Mod) (.int a):=OV h %[|h1]
end
section
variable (X:Fx)(ρ:Loc)(Q:LF→Loc→St→Prop)(QA:Loc→St→Prop)(QV:LV→St→Prop)(QB:Bool→St→Prop)(ep:EP)
noncomputable abbrev vH:Loc→St→Prop:=fun bt σ'=>Q .next bt σ'
noncomputable abbrev Hw(ep:EP)(X:Fx)(Q:LF→Loc→St→Prop)(aW:List Stmt):LF→Loc→St→Prop:=fun f aC ah=>match f with|.next=>ST ep ah aC X Q (execs aW X.aa)|f=>Q f aC ah
noncomputable abbrev Vw(o:List Stmt)(ep:EP)(X:Fx)(b:List Stmt)(Q:LF→Loc→St→Prop)(ρ:Loc):Bool→St→Prop:=fun c ah=>Br c (ST ep ah ρ X Q (execs b X.aa)) (ST ep ah ρ X Q (execs o X.aa))
noncomputable abbrev Ti:LV→St→Prop:=fun v ah=>Q (.ret v) ρ ah
noncomputable abbrev Vx:LV→St→Prop:=fun _ ah=>Q .next ρ ah
noncomputable abbrev Tj(ep:EP)(x:Str)(X:Fx)(Q:LF→Loc→St→Prop)(ρ:Loc):LV→St→Prop:=fun v ah=>AS ep ρ ah X (fun w=>storeName X.aa x w) (vH Q) v
noncomputable abbrev yx(ep:EP)(X:Fx)(ρ:Loc)(Q:LF→Loc→St→Prop)(t:Expr):LV→St→Prop:=fun v ah=>AS ep ρ ah X (assign t X.aa) (vH Q) v
noncomputable abbrev Q0:St→Prop:=fun ae=>QA ρ ae
noncomputable abbrev Pm(name:Str)(v:LV):LV→St→Prop:=fun ov ah=>OU X (fun o w=>setAttr o name w) ov v ah (Q0 ρ QA) ep
noncomputable abbrev My(ov v:LV):LV→St→Prop:=fun iv ae=>O3 X setItem ov iv v ae (Q0 ρ QA) ep
noncomputable abbrev Pn(i:Expr)(v:LV):LV→St→Prop:=fun ov ah=>ET ep X ρ ah i (My X ρ QA ep ov v)
noncomputable abbrev Mz(name:Str)(ov:LV):LV→St→Prop:=fun new cg=>OU X (fun o v=>setAttr o name v) ov new cg (fun dZ=>Q .next ρ dZ) ep
noncomputable abbrev MA(name:Str)(op:Operator)(ov old:LV):LV→St→Prop:=fun v bz=>O2 bz v ep X (Mz X ρ Q ep name ov) (inplaceOp op) old
noncomputable abbrev MB(name:Str)(op:Operator)(bJ:Expr)(ov:LV):LV→St→Prop:=fun old ae=>ET ep X ρ ae bJ (MA X ρ Q ep name op ov old)
noncomputable abbrev Po(name:Str)(op:Operator)(bJ:Expr):LV→St→Prop:=fun ov ah=>O1 X (fun o=>getAttr o name true) ov ah (MB X ρ Q ep name op bJ ov) ep
noncomputable abbrev MC(ov iv:LV):LV→St→Prop:=fun new dZ=>O3 X setItem ov iv new dZ (fun fN=>Q .next ρ fN) ep
noncomputable abbrev MD(op:Operator)(ov iv old:LV):LV→St→Prop:=fun v cg=>O2 cg v ep X (MC X ρ Q ep ov iv) (inplaceOp op) old
noncomputable abbrev ME(op:Operator)(bJ:Expr)(ov iv:LV):LV→St→Prop:=fun old bz=>ET ep X ρ bz bJ (MD X ρ Q ep op ov iv old)
noncomputable abbrev MF(op:Operator)(bJ:Expr)(ov:LV):LV→St→Prop:=fun iv ae=>O2 ae iv ep X (ME X ρ Q ep op bJ ov iv) getItem ov
noncomputable abbrev Pp(op:Operator)(i bJ:Expr):LV→St→Prop:=fun ov ah=>ET ep X ρ ah i (MF X ρ Q ep op bJ ov)
noncomputable abbrev Pq(ep:EP)(op:Operator)(X:Fx)(a:LV)(QV:LV→St→Prop):LV→St→Prop:=fun b ae=>O2 ae b ep X QV (binaryOp op) a
noncomputable abbrev Tn(ep:EP)(op:Operator)(X:Fx)(ρ:Loc)(r:Expr)(QV:LV→St→Prop):LV→St→Prop:=fun a ah=>ET ep X ρ ah r (Pq ep op X a QV)
noncomputable abbrev Pt(ep:EP)(op:CmpOp)(X:Fx)(a:LV)(QV:LV→St→Prop):LV→St→Prop:=fun b ae=>O2 ae b ep X QV (compareOp op) a
noncomputable abbrev MG(ep:EP)(op:CmpOp)(X:Fx)(ρ:Loc)(r:Expr)(QV:LV→St→Prop):LV→St→Prop:=fun a ah=>ET ep X ρ ah r (Pt ep op X a QV)
noncomputable abbrev Q2(ep:EP)(X:Fx)(QB:Bool→St→Prop):LV→St→Prop:=fun v bz=>OB truthy bz v ep X QB
noncomputable abbrev To:Bool→St→Prop:=fun b ah=>QB (!b) ah
noncomputable abbrev Tp(ep:EP)(ai:Pos)(X:Fx)(aW:List Expr)(ρ:Loc)(QB:Bool→St→Prop):Bool→St→Prop:=fun b ah=>Br b (IT ep X ah ρ QB (.BoolOp .And aW ai)) (QB false ah)
noncomputable abbrev Vy(ep:EP)(X:Fx)(ai:Pos)(ρ:Loc)(QB:Bool→St→Prop)(aW:List Expr):Bool→St→Prop:=fun b ah=>Br b (QB true ah) (IT ep X ah ρ QB (.BoolOp .Or aW ai))
noncomputable abbrev Tq(b o:Expr):Bool→St→Prop:=fun c ah=>Br c (ET ep X ρ ah b QV) (ET ep X ρ ah o QV)
noncomputable abbrev Pu(ep:EP)(X:Fx)(name:Str)(QV:LV→St→Prop):LV→St→Prop:=fun o ah=>O1 X (fun o=>getAttr o name true) o ah QV ep
noncomputable abbrev Pw(ep:EP)(X:Fx)(a:LV)(QV:LV→St→Prop):LV→St→Prop:=fun b ae=>GI X a b ae QV ep
noncomputable abbrev Tr(ep:EP)(X:Fx)(ρ:Loc)(QV:LV→St→Prop)(slice:Expr):LV→St→Prop:=fun a ah=>ET ep X ρ ah slice (Pw ep X a QV)
noncomputable abbrev Ts(l:LV):LV→St→Prop:=fun u ae=>QV (.uQ l u) ae
noncomputable abbrev Vz(hi:Option Expr):LV→St→Prop:=fun l ah=>EO X ρ ah hi (Ts QV l) ep
noncomputable abbrev VA(v:LV)(QL:List LV→St→Prop):List LV→St→Prop:=fun vs ae=>QL (v::vs) ae
noncomputable abbrev VB(ep:EP)(X:Fx)(ρ:Loc)(r:List Expr)(QL:List LV→St→Prop):LV→St→Prop:=fun v ah=>EA X ρ r ah (VA v QL) ep
noncomputable def IA:List LV→St→Prop:=fun vs ah=>vs.length≤10000∧eL vs ah QV
noncomputable def MH:List LV→St→Prop:=fun vs ah=>vs.length≤10000∧QV (.tup vs) ah
noncomputable abbrev sq(ep:EP)(fv:Value)(X:Fx)(QV:LV→St→Prop):List LV→St→Prop:=fun vs ae=>bV ae X ep QV vs fv
noncomputable abbrev Dd(az:List Expr):LV→St→Prop:=fun f ah=>∃fv,(∀φ v,VR φ f v→v=fv)∧jS X.G fv∧EA X ρ az ah (sq ep fv X QV) ep
noncomputable abbrev Tt(ep:EP)(X:Fx)(ov:LV)(f:Value)(QV:LV→St→Prop):List LV→St→Prop:=fun vs ae=>bV ae X ep QV (ov::vs) f
noncomputable abbrev Tu(ep:EP)(X:Fx)(ρ:Loc)(ah:St)(ov:LV)(az:List Expr)(QV:LV→St→Prop):Value→Prop:=fun f=>EA X ρ az ah (Tt ep X ov f QV) ep
noncomputable abbrev VC(ep:EP)(X:Fx)(ρ:Loc)(az:List Expr)(name:Str)(QV:LV→St→Prop):LV→St→Prop:=fun ov ah=>iR X ov name ah (Tu ep X ρ ah ov az QV)
end
section
variable {X:Fx}{ρ:Loc}{σ:St}{Q:LF→Loc→St→Prop}{QA:Loc→St→Prop}{QV:LV→St→Prop}{QB:Bool→St→Prop}{ep:EP}
theorem mP{ep:EP}{X:Fx}{Q:LF→Loc→St→Prop}{ρ:Loc}{σ:St}{aW:List Stmt}{st:Stmt}(h:ST ep σ ρ X (Hw ep X Q aW) (exec st X.aa)):ST ep σ ρ X Q (execs (st::aW) X.aa):=wC h
theorem sIf{o:List Stmt}{ep:EP}{X:Fx}{σ:St}{ρ:Loc}{t:Expr}{b:List Stmt}{ai:Pos}{Q:LF→Loc→St→Prop}(h:IT ep X σ ρ (Vw o ep X b Q ρ) t):ST ep σ ρ X Q (exec (.If t b o ai) X.aa):=OY h
theorem Y9{ep:EP}{σ:St}{X:Fx}{ρ:Loc}{Q:LF→Loc→St→Prop}{e:Expr}{ai:Pos}(h:ET ep X ρ σ e (Ti ρ Q)):ST ep σ ρ X Q (exec (.Return (some e) ai) X.aa):=En h
theorem IB{ep:EP}{X:Fx}{ρ:Loc}{σ:St}(hi:interactive X.aa=false){Q:LF→Loc→St→Prop}{e:Expr}{ai:Pos}(hs:swapsWith e none ai.line X.aa=pure false)(h:ET ep X ρ σ e (Vx ρ Q)):ST ep σ ρ X Q (exec (.Expr e ai) X.aa):=JY h hi hs
theorem Za{ep:EP}{x:Str}{e:Expr}{p ai:Pos}{X:Fx}{Q:LF→Loc→St→Prop}(hs:swapsWith e (some (.Name x p)) ai.line X.aa=pure false){ρ:Loc}{σ:St}(h:ET ep X ρ σ e (Tj ep x X Q ρ)):ST ep σ ρ X Q (exec (.Assign [.Name x p] e ai) X.aa):=Eo h hs
theorem Yy{ep:EP}{X:Fx}{ρ:Loc}{σ:St}{Q:LF→Loc→St→Prop}{o e:Expr}{name:Str}{p ai:Pos}(hs:swapsWithSole [.Attribute o name p] e ai.line X.aa=pure false)(hw:swappedStores [.Attribute o name p] e X.aa=pure none)(he:(assignEach [.Attribute o name p] X.aa).map (·.2)=[assign (.Attribute o name p) X.aa])(h:ET ep X ρ σ e (yx ep X ρ Q (.Attribute o name p))) :
  ST ep σ ρ X Q (exec (.Assign [.Attribute o name p] e ai) X.aa):=mN h hs hw he
theorem Yz{ep:EP}{X:Fx}{ρ:Loc}{Q:LF→Loc→St→Prop}{i:Expr}{ai:Pos}(hs:swapsWithSole [.Subscript o i p] e ai.line X.aa=pure false)(hw:swappedStores [.Subscript o i p] e X.aa=pure none)(he:(assignEach [.Subscript o i p] X.aa).map (·.2)=[assign (.Subscript o i p) X.aa]){σ:St}(h:ET ep X ρ σ e (yx ep X ρ Q (.Subscript o i p))) :
  ST ep σ ρ X Q (exec (.Assign [.Subscript o i p] e ai) X.aa):=mN h hs hw he
theorem YA{ep:EP}{X:Fx}{ρ:Loc}{v:LV}{σ:St}{QA:Loc→St→Prop}{o:Expr}{name:Str}{p:Pos}(h:ET ep X ρ σ o (Pm X ρ QA ep name v)):AS ep ρ σ X (assign (.Attribute o name p) X.aa) QA v:=Ka h
theorem Zb{ep:EP}{X:Fx}{ρ:Loc}{QA:Loc→St→Prop}{i:Expr}{σ:St}(h:ET ep X ρ σ o (Pn X ρ QA ep i v)):AS ep ρ σ X (assign (.Subscript o i p) X.aa) QA v:=LL h
theorem YB{op:Operator}{ep:EP}{X:Fx}{ρ:Loc}{σ:St}{Q:LF→Loc→St→Prop}{ai:Pos}(h:ET ep X ρ σ o (Po X ρ Q ep name op bJ)):ST ep σ ρ X Q (exec (.AugAssign (.Attribute o name iO) op bJ ai) X.aa):=Cx h
theorem YC{i:Expr}{ai:Pos}{op:Operator}(hi:∀ov iv new,augStore i ov iv new=(do holding [new,ov,iv] (setItem ov iv new);release [new,ov,iv] [];pure .next))(h:ET ep X ρ σ o (Pp X ρ Q ep op i bJ)):ST ep σ ρ X Q (exec (.AugAssign (.Subscript o i iO) op bJ ai) X.aa):=EB h hi
theorem Zc{ep:EP}{op:Operator}{X:Fx}{σ:St}{ρ:Loc}{QV:LV→St→Prop}{l r:Expr}{ai:Pos}(h:ET ep X ρ σ l (Tn ep op X ρ r QV)):ET ep X ρ σ (.BinOp l op r ai) QV:=Lq h
theorem Zd{ep:EP}{op:CmpOp}{X:Fx}{ρ:Loc}{σ:St}{QV:LV→St→Prop}{l r:Expr}{ai:Pos}(hm:behindInMarks op r=false)(h:ET ep X ρ σ l (MG ep op X ρ r QV)):ET ep X ρ σ (.Compare l [op] [r] ai) QV:=Lr h hm
theorem Ze{ep:EP}{op:CmpOp}{X:Fx}{σ:St}{ρ:Loc}{l r:Expr}{ai:Pos}(hm:behindInMarks op r=false){QB:Bool→St→Prop}(h:ET ep X ρ σ l (MG ep op X ρ r (Q2 ep X QB))):IT ep X σ ρ QB (.Compare l [op] [r] ai):=Lw h hm
theorem Zf{ep:EP}{X:Fx}{ρ:Loc}{σ:St}{QB:Bool→St→Prop}{ai:Pos}(h:IT ep X σ ρ (To QB) e):IT ep X σ ρ QB (.UnaryOp .Not e ai):=Lu h
theorem Zg{ep:EP}{ai:Pos}{X:Fx}{σ:St}{ρ:Loc}{QB:Bool→St→Prop}{e:Expr}{aW:List Expr}(h:IT ep X σ ρ (Tp ep ai X aW ρ QB) e):IT ep X σ ρ QB (.BoolOp .And (e::aW) ai):=Lv h
theorem iOr{ep:EP}{X:Fx}{ai:Pos}{ρ:Loc}{σ:St}{QB:Bool→St→Prop}{e:Expr}{aW:List Expr}(h:IT ep X σ ρ (Vy ep X ai ρ QB aW) e):IT ep X σ ρ QB (.BoolOp .Or (e::aW) ai):=OS h
theorem VD{ep:EP}{X:Fx}{ρ:Loc}{σ:St}{QB:Bool→St→Prop}(he:∀whole,isTrue e X.aa whole=(do let v ← whole;standAt e.pos;holding [v] (truthy v)))(h:ET ep X ρ σ e (Q2 ep X QB)):IT ep X σ ρ QB e:=GR h he
theorem lj{ep:EP}{X:Fx}{ρ:Loc}{t b:Expr}{ai:Pos}{σ:St}{QV:LV→St→Prop}(h:IT ep X σ ρ (Tq X ρ QV ep b o) t):ET ep X ρ σ (.IfExp t b o ai) QV:=OO h
theorem YD{ep:EP}{X:Fx}{ρ:Loc}{σ:St}{name:Str}{QV:LV→St→Prop}{e:Expr}{ai:Pos}(hb:eval (.Attribute e name ai) X.aa=(do let o ← eval e X.aa;standAt ai.atName;let r ← holding [o] (getAttr o name true);letTemporaryGo e o r;pure r))(h:ET ep X ρ σ e (Pu ep X name QV)):ET ep X ρ σ (.Attribute e name ai) QV:=JW h hb
theorem Zh{ep:EP}{X:Fx}{σ:St}{ρ:Loc}{QV:LV→St→Prop}{bJ slice:Expr}{ai:Pos}(hs:∀o i,∃ops,subscripted slice false o i=operate ops (getItem o i))(h:ET ep X ρ σ bJ (Tr ep X ρ QV slice)):ET ep X ρ σ (.Subscript bJ slice ai) QV:=Mc h hs
theorem VE{ep:EP}{X:Fx}{ρ:Loc}{σ:St}{lo:Option Expr}{QV:LV→St→Prop}{hi:Option Expr}(h:EO X ρ σ lo (Vz X ρ QV ep hi) ep):ET ep X ρ σ (.Slice lo hi none p) QV:=G9 h
theorem YE{ep:EP}{X:Fx}{es:List Expr}(hp:dg es=true){σ:St}{ρ:Loc}{QV:LV→St→Prop}{ai:Pos}(h:EA X ρ es σ (IA QV) ep):ET ep X ρ σ (.List es ai) QV:=Kf hp h
theorem VF{ep:EP}{X:Fx}{ρ:Loc}{σ:St}{QV:LV→St→Prop}{es:List Expr}{ai:Pos}(hp:dg es=true)(h:EA X ρ es σ (MH QV) ep):ET ep X ρ σ (.Tuple es k ai) QV:=Ha hp h
theorem YF{ep:EP}{X:Fx}{ρ:Loc}{σ:St}{QL:List LV→St→Prop}(h:QL [] σ):EA X ρ [] σ QL ep:=h
theorem Ff{ep:EP}{X:Fx}{ρ:Loc}{σ:St}{r:List Expr}{e:Expr}{QL:List LV→St→Prop}(h:ET ep X ρ σ e (VB ep X ρ r QL)):EA X ρ (e::r) σ QL ep:=h
theorem ID{az:List Expr}{ai:Pos}(hp:dg az=true)(he:eval (.Call func az [] ai) X.aa=(do callWith ai (← eval func X.aa) [] (backTo ai (starEach az X.aa)) (backToKw ai (keywordEach [] X.aa))))(h:ET ep X ρ σ func (Dd X ρ QV ep az)):ET ep X ρ σ (.Call func az [] ai) QV:=JX hp h he
theorem VG{ep:EP}{X:Fx}{ρ:Loc}{σ:St}{az:List Expr}(hp:dg az=true){name:Str}{QV:LV→St→Prop}{o:Expr}{apos ai:Pos}{pl:Sem Bool}(he:eval (.Call (.Attribute o name apos) az [] ai) X.aa=(do
   let ov ← eval o X.aa
   standAt apos.atName
   let(f,first) ← holding [ov] (getMethod ov name pl)
   callWith ai f first (backTo ai (starEach az X.aa)) []))(h:ET ep X ρ σ o (VC ep X ρ az name QV)):ET ep X ρ σ (.Call (.Attribute o name apos) az [] ai) QV:=GV hp h he
theorem Px{fv:Value}{az:List Expr}(hk:jS X.G fv)(h:EA X ρ az σ (sq ep fv X QV) ep):Dd X ρ QV ep az (.con fv) σ:=⟨fv,fun _ _ e=>e,hk,h⟩
theorem MI{az:List Expr}(hk:jS X.G (.ref a))(h:EA X ρ az σ (sq ep (.ref a) X QV) ep):Dd X ρ QV ep az (.ref a) σ:=⟨.ref a,fun _ _ e=>e,hk,h⟩
theorem Zi(hz:vs.length≤10000)(h:QV (.tup vs) σ):MH QV vs σ:=⟨hz,h⟩
theorem YG{vs:List LV}(hz:vs.length≤10000){σ:St}{QV:LV→St→Prop}(h:eL vs σ QV):IA QV vs σ:=⟨hz,h⟩
end
end Lake
end
section
open PySem PySem.W PySem.Calls PyProof.Rows Builtin
namespace JL
section
variable {aq:Program}{w:World}{A:Around}{E:bN}{s:aG}{K:Frag}{name:Str}
theorem zR{T:String}{pl:Sem Bool}{v:Value}{Q:Value×List Value→aG→Prop}(X:K.In s.heap)(ht:typeOf (.type T)=pure (.type "type"))(hs:Manifest.isStub T=false)
 (e:findCls K (.type T) (.type "type") name=some (.val v))(hh:handedIn v=true)(h:Q (v,[]) {s with toks:=s.toks+1}):wpAny (model aq w) A (getMethod (.type T) name pl) Q E s:=by
 revert X ht hs e hh h
 revert aq w A E s K name T pl v Q
 rintro aq w A E s K name T pl:(_)
 rintro v Q:(_)
 intro X ht hs e hh h
 have Py:opaqueClassAbove (.type T)=pure none:=by unfold opaqueClassAbove;dsimp only;rw[hs];rfl
 have L0:Looks (model aq w) s.heap (typeOf (.type T)) (.type "type"):=Looks.of_pure ht
 have hg:findIn K (.type "type") "__getattribute__"=some (some (.builtin "type.__getattribute__")):=type_tga
 unfold getMethod specialOf
 refine aM (aM (L0.here ((looks_findIn X hg).here ?_)))
 dsimp only
 rw[bh canon_tga]
 refine aM (wpAny_mono (Q:=fun v=>Q (v,[])) (E:=E) ?_ (fun _ _ z=>cA z) fun _ _ z=>z)
 have LO:Looks (model aq w) s.heap (opaqueClassAbove (.type T)) none:=Looks.of_pure Py
 refine cls_open X LO L0 hg (looks_hook X (r:=none) (by rfl)) (by show subIn K _ _=_;rfl) e
  (cA (by show wpAny _ _ (handedOut v) _ _ _;rw[handedOut_of hh];exact cA h))
theorem Bi{v:Value}{Q:Value×List Value→aG→Prop}(X:K.In s.heap)(hg:specialIn K (.ref C) "__getattribute__"=some (some (.builtin "type.__getattribute__")))(hr:readsIn K C (.type "type")=true)
 (e:findCls K (.ref C) (.type "type") name=some (.val v))(hh:handedIn v=true)(h:Q (v,[]) {s with toks:=s.toks+1}):wpAny (model aq w) A (getMethod (.ref C) name pl) Q E s:=
 method_cls X hg (cls_value X hr e hh h)
end
end JL
namespace Lake
open JL
section
variable {X:Fx}{ρ:Loc}{σ:St}{Q:LV→St→Prop}{ep:EP}
noncomputable def vI(X:Fx)(v:Value)(name:Str)(f:Value):Prop:=∀(s:aG) (pl:Sem Bool) (Q':Value×List Value→aG→Prop) (E:bN),X.G.K.In s.heap→Q' (f,[]) {s with toks:=s.toks+1}→PySem.wpAny X.G.M X.c.A (getMethod v name pl) Q' E s
theorem De{T:String}{name:Str}{f:Value}(ht:typeOf (.type T)=pure (.type "type"))(hs:Manifest.isStub T=false)(e:findCls X.G.K (.type T) (.type "type") name=some (.val f))(hh:handedIn f=true):vI X (.type T) name f:=
 fun s pl Q' E hX q=>zR hX ht hs e hh q
theorem Fg{C:Addr}{name:Str}{f:Value}(hg:specialIn X.G.K (.ref C) "__getattribute__"=some (some (.builtin "type.__getattribute__")))(hr:readsIn X.G.K C (.type "type")=true)(e:findCls X.G.K (.ref C) (.type "type") name=some (.val f))(hh:handedIn f=true):vI X (.ref C) name f:=
 fun s pl Q' E hX q=>Bi hX hg hr e hh q
noncomputable abbrev Tv(ρ:Loc)(Q:LV→St→Prop)(ep:EP)(name:Str)(az:List Expr)(v f:Value):LV→St→Prop:=fun ov ah=>(∀φ w,VR φ ov w→w=v)∧jS X.G f∧vI X v name f∧EA X ρ az ah (fun vs ae=>bV ae X ep Q vs f) ep
theorem BA{az:List Expr}{apos ai:Pos}{v:Value}(hp:dg az=true)
 (he:eval (.Call (.Attribute o name apos) az [] ai) X.aa=(do
   let ov ← eval o X.aa
   standAt apos.atName
   let(f,first) ← holding [ov] (getMethod ov name pl)
   callWith ai f first (backTo ai (starEach az X.aa)) []))(h:ET ep X ρ σ o (Tv (X:=X) ρ Q ep name az v f)):ET ep X ρ σ (.Call (.Attribute o name apos) az [] ai) Q:=fun hc φ s hA hF=>by
 refine tM (pl:=pl) (bG.gg (h hc φ s hA hF) (fun va aj aX ah a ax ra iX=>?_)) he
 obtain⟨hv,hk,hm,aN⟩:=iX
 have:=hv _ _ ra
 subst this
 refine aD (hm aj _ _ _ ax.at_.rep.K ?_)
 have aP:=ax.trans (aV.tok ax.at_)
 exact(nt (first:=[]) hp hk aN hc aP.at_ (hF.step aP.ext aP.bT) rfl).up aP
theorem Hx{a b:Str}{k':Nat}{p' np fp ai:Pos}(hk:X.aa.kindOf x=some .local)(hv:ρ x=some (.int n))(hn:n.natAbs.log2<1920)(ha:a.length≤10000)(hb:b.length≤10000)(h:∀s,Q (.str s) σ)(hd:autoParam ((x==("__debug__" : Str))=false) Jm.a1) :
  ET ep X ρ σ (.JoinedStr [.Constant (.str a) k p,.FormattedValue (.Name x np) (-1) none fp,.Constant (.str b) k' p'] ai) Q:=fun _ φ s hA hF=>by
 obtain⟨m,iV,hm⟩:=hF.ns
 obtain⟨w,h1,t,rfl⟩:=hm x _ hv hk
 have L:=int_text_fits hn
 have MJ:(Str.ofString (toString n)).length≤10000:=by
  have e:=int_text_length_le (k:=1920) %[|0] hn;rw[PySem.ofString_length];exists e
 refine aD (JoinedStr_many (joinParts_cons ?_))
 show PySem.wpAny _ _ (mkText a) _ _ _
 refine wpAny_mkText ⟨by rw[strLen_append,dH];show 0+a.length≤_;(exists ha),joinParts_cons (FormattedValue_plain (wpAny_Name (wpAny_loadName_local (s:={s with toks:=s.toks+1}) hF.fn hk iV h1 (formatField_int_small hn ⟨by rw[strLen_append,strLen_append,dH];show 0+a.length+(Str.ofString (toString n)).length≤_;(exists ha,MJ),joinParts_cons ?_⟩)) hd))⟩
 show PySem.wpAny _ _ (mkText b) _ _ _
 refine wpAny_mkText ⟨by rw[strLen_append,strLen_append,strLen_append,dH];show 0+a.length+(Str.ofString (toString n)).length+b.length≤_;(exists ha,hb,MJ),joinParts_nil ⟨φ,σ,.str _,aV.toks hA _,⟨_,rfl⟩,h _⟩ (by rw[strLen_append,strLen_append,strLen_append,dH];show 0+a.length+(Str.ofString (toString n)).length+b.length≤_;exists ha,hb,MJ)⟩
end
theorem CallT.Q3{n:Nat}{f T:Addr}{oT:Obj}{nm:Str}{aw:Array Value}{nT:Nat}
 (hK:G.K.lookup f=some fo)(hd:fo.data=.func ⟨nm,qn,ps,.stmts aZ,⟨.function,sn,false,false,more⟩,mainGlobals,[],.ref T,kV,doc,pm,an,cd,ct,builtinsNs⟩)(hT:G.K.lookup T=some oT)(hs:oT.data=.seq aw nT)(gc:codeIn G.K cd qn=true)
 (dB:∀(vs:List Value),vs.length=az.length→∃k,bindArgs ⟨nm,qn,ps,.stmts aZ,⟨.function,sn,false,false,more⟩,mainGlobals,[],.ref T,kV,doc,pm,an,cd,ct,builtinsNs⟩ ⟨vs,[]⟩=seqItems? (.ref T) >>= k∧k (some aw)=pure (names.zip vs))(hlen:names.length=az.length)(fB:names.Nodup)
 (jg:(sn.all fun x=>!(x.2==.cell))=true)(lG:(names.all fun x=>sn.lookup x==some .local)=true)
 (h:∀(c:Ctx) (aa:Env),aa.scope.names=sn→(∃outer L,c.bA=aa::outer∧aa.frame=some L)→interactive aa=false→ST ep σ (fq names az) ⟨G,c,aa,n⟩ (fun lf _ σ'=>Q lf.val σ') (execs aZ aa)):CallT (n+1) ⟨false,ep.Q⟩ (.ref f) G σ Q az:=by
 refine CallT.fn hK hd rfl gc (fun s vs hX hl=>?_) hlen fB (fun x hx=>?_) (fun x hx=>?_) rfl rfl rfl (fun c L=>h _ _ rfl ⟨_,L,rfl,rfl⟩ rfl) rfl rfl rfl
 ·obtain⟨k,h1,h2⟩:=dB vs hl;exact BindsTo.of_defaults rfl (hX _ _ hT) hs h1 h2
 ·have:=all_eq_true.mp jg x hx;simpa using this
 exact eq_of_beq (all_eq_true.mp lG x hx)
end Lake
end
section
open PySem PySem.W PySem.Calls PyProof.Rows Builtin
namespace JL
theorem MK:typeOf (.builtin "dict.get")=pure (.type "method_descriptor"):=by k_in
theorem Hy:typeOf (.builtin "dict.items")=pure (.type "method_descriptor"):=by k_in
theorem Fh:typeOf (.builtin "list.append")=pure (.type "method_descriptor"):=by k_in
theorem ML:typeOf (.builtin "list.pop")=pure (.type "method_descriptor"):=by k_in
theorem Fi:typeOf (.builtin "list.remove")=pure (.type "method_descriptor"):=by k_in
end JL
namespace Lake
open JL
section
variable {X:Fx}{ρ:Loc}{σ:St}{Q:LV→St→Prop}{ep:EP}{a:Addr}{t:Tag}{K:Value→Prop}
theorem YH(e:σ a=some (t,.dict es dp))(h:K (.builtin "dict.get")):iR X (.ref a) "get" σ K:=xt e PySem.F.slot_dict_get MK h
theorem UL(e:σ a=some (t,.dict es dp))(h:K (.builtin "dict.items")):iR X (.ref a) "items" σ K:=xt e PySem.F.slot_dict_items Hy h
theorem YI(e:σ a=some (t,.list vs))(h:K (.builtin "list.append")):iR X (.ref a) "append" σ K:=r6 (.inr ⟨_,_,rfl,e⟩) PySem.F.slot_list_append Fh h
theorem YJ(e:σ a=some (t,.list vs))(h:K (.builtin "list.pop")):iR X (.ref a) "pop" σ K:=r6 (.inr ⟨_,_,rfl,e⟩) PySem.F.slot_list_pop ML h
theorem YK(e:σ a=some (t,.list vs))(h:K (.builtin "list.remove")):iR X (.ref a) "remove" σ K:=r6 (.inr ⟨_,_,rfl,e⟩) PySem.F.slot_list_remove Fi h
theorem Tw:∀ {a b:Int} (h:Q (.int (max a b)) σ),bV σ X ep Q [.int a,.int b] (.builtin "max"):=by
 revert X σ Q ep
 rintro X σ Q ep a:(_)
 rintro b:(_)
 w_up
 intro hc
 intro φ s ws hA hv
 obtain⟨w,r,rfl,⟨t,rfl⟩,h2⟩:=hv.cons_inv
 obtain⟨w,rfl,u,rfl⟩:=ei h2
 refine aD (max_two_ints hc.handled fun h' tk k=>⟨φ,σ,.int (max a b),aV.keeps hA k,?_,h⟩)
 split
 ·rename_i z;exact⟨u,congrArg (Value.int · u) (Int.max_eq_right (Int.le_of_lt z)).symm⟩
 rename_i z;exact⟨t,congrArg (Value.int · t) (Int.max_eq_left (Int.not_lt.mp z)).symm⟩
theorem MM{ep:EP}{X:Fx}{t:Tag}{σ:St}{a:Addr}(e:σ a=some (t,.list vs))(hz:vs.length≤100000){Q:LV→St→Prop}(h:Q (.int vs.length) σ):bV σ X ep Q [.ref a] (.builtin "len"):=nE (.inl (.inr ⟨_,_,rfl,e⟩)) hz h
theorem Br.QY{b:Bool}(hb:b=true){q p:Prop}(h:p):Br b p q:=⟨fun _=>h,fun z=>by nomatch hb,z⟩
theorem Br.VH{b:Bool}(hb:b=false){p q:Prop}(h:q):Br b p q:=⟨(fun z=>by nomatch hb,z),fun _=>h⟩
theorem Tx{p:Prop}[Decidable p](h:p):(!decide p)=false:=by simp[h]
theorem Fj{a b:Int}(h:a=b):(a==b)=true:=by simp[h]
theorem MN{a b:Int}(h:a≠b):(a==b)=false:=by simp[h]
theorem VI{a b:Int}(h:a=b):(a != b)=false:=by simp[h]
end
end Lake
end
section
open PySem PySem.W PySem.Calls PyProof.Rows Builtin
namespace Lake
section
variable (G:Gd)(c:Ctx)(aa:Env)(n:Nat)(ρ:Loc)(Q:LF→Loc→St→Prop)(ep:EP)(aB:Expr)(aZ:List Stmt)
noncomputable abbrev Pz(src:St→Prop)(Inv:Nat→Loc→St→Prop)(its:List Addr)(i:Nat):Loc→St→Prop:=
 fun cz bz=>ST ⟨false,ep.Q⟩ bz cz ⟨G,c.add its,aa,n⟩ (Im src Inv i Q) (execs aZ aa)
structure MO(aw:List LV)(src:St→Prop)(Inv:Nat→Loc→St→Prop):Prop where
 turn:∀its i v aC ae,aw[i]?=some v→src ae→Inv i aC ae→AS ⟨false,ep.Q⟩ aC ae ⟨G,c.add its,aa,n⟩ (assign aB aa) (Pz G c aa n Q ep aZ src Inv its i) v
 fin:∀aC ae,src ae→Inv aw.length aC ae→Q .next aC ae
noncomputable def MP:List LV→(St→Prop)→St→Prop:=fun aw src ah=>∃Inv:Nat→Loc→St→Prop,Inv 0 ρ ah∧MO G c aa n Q ep aB aZ aw src Inv
end
section
variable {G:Gd}{c:Ctx}{aa:Env}{n:Nat}{ρ:Loc}{σ:St}{Q:LF→Loc→St→Prop}{ep:EP}{aB bK:Expr}{aZ:List Stmt}
theorem gV{ep:EP}{n:Nat}{G:Gd}{c:Ctx}{aa:Env}{ρ:Loc}{σ:St}{Q:LF→Loc→St→Prop}{aB:Expr}{aZ:List Stmt}(Inv:Nat→Loc→St→Prop)(h0:Inv 0 ρ σ)(h:MO G c aa n Q ep aB aZ aw src Inv):MP G c aa n ρ Q ep aB aZ aw src σ:=⟨Inv,h0,h⟩
theorem gW:∀ {ep:EP} {n:Nat} {G:Gd} {c:Ctx} {aa:Env} {ρ:Loc} {σ:St} {Q:LF→Loc→St→Prop} {aB bK:Expr} {aZ:List Stmt} {ai:Pos} (hf:∃outer L,c.bA=aa::outer∧aa.frame=some L) (hs:∀x,foldedSetIterable bK aa x=pure x) (h:IE ⟨G,c,aa,n⟩ ρ σ bK aB (MP G c aa n ρ Q ep aB aZ) ep),ST ep σ ρ ⟨G,c,aa,n⟩ Q (exec (.For aB bK aZ [] ai) aa):=by
 rintro ep n G c aa ρ σ Q aB bK aZ ai:(_)
 w_up
 obtain⟨outer,L,h1,h2⟩:=hf
 refine LM (X:=⟨G,c,aa,n⟩) h1 h2 (fun hc φ s hA hF=>?_) hs
 refine aL (h hc φ s hA hF) (fun va aj aN=>aL aN (fun Il aO bE=>?_) fun _ _ e=>e) fun _ _ e=>e
 obtain⟨bp,ae,it,its,I,aw,src,e1,e2,e3,e4,e5,e6,Inv,h0,hI⟩:=bE
 exact⟨bp,ae,it,its,I,aw,src,e1,e2,e3,e4,e5,e6,Inv,h0,hI.turn,hI.fin⟩
end
noncomputable abbrev Df(a:Addr)(aw:List LV):St→Prop:=fun σ=>∃t,σ a=some (t,.list aw)
noncomputable abbrev MQ(a:Addr)(es:List (Int×LV))(dp:Nat):St→Prop:=fun σ=>∃t,σ a=some (t,.dict es dp)
noncomputable abbrev nK:St→Prop:=fun _=>True
section
variable (K:List LV→(St→Prop)→St→Prop)
noncomputable def MR:LV→St→Prop:=fun v ah=>∃a t aw,v=.ref a∧ah a=some (t,.list aw)∧K aw (Df a aw) ah
noncomputable def MS:LV→St→Prop:=fun v ah=>∃aw,v=.fl aw∧K aw nK ah
noncomputable def MT:LV→St→Prop:=fun v ah=>∃a t es dp,v=.ref a∧ah a=some (t,.dict es dp)∧K (dT es) (MQ a es dp) ah
noncomputable def zS:LV→St→Prop:=fun v ah=>(∃a t aw,v=.ref a∧ah a=some (t,.list aw)∧K (cI aw) (Df a aw) ah)∨∃aw,v=.fl aw∧K (cI aw) nK ah
noncomputable def Hz:List LV→St→Prop:=fun vs ah=>∃b:bc,vs=[.bX b]∧b.length≤10000∧K (ig b.reverse) nK ah
noncomputable def Dg:List LV→St→Prop:=fun vs ah=>∃b:Int,vs=[.int b]∧-(2 ^ 60)≤b∧b<2 ^ 60∧K (bL 0 1 b.toNat) nK ah
noncomputable def Dh:List LV→St→Prop:=fun vs ah=>∃b:Int,vs=[.int 0,.int b,.int 4]∧0≤b∧b<2 ^ 60∧K (bL 0 4 ((b+3)/4).toNat) nK ah
end
section
variable {X:Fx}{ρ:Loc}{σ:St}{K:List LV→(St→Prop)→St→Prop}{ep:EP}{bK aB:Expr}
theorem Dj(e:σ a=some (t,.list aw))(h:K aw (Df a aw) σ):MR K (.ref a) σ:=⟨a,t,aw,rfl,e,h⟩
theorem px(h:K aw nK σ):MS K (.fl aw) σ:=⟨aw,rfl,h⟩
theorem Dk(e:σ a=some (t,.dict es dp))(h:K (dT es) (MQ a es dp) σ):MT K (.ref a) σ:=⟨a,t,es,dp,rfl,e,h⟩
theorem Dl(e:σ a=some (t,.list aw))(h:K (cI aw) (Df a aw) σ):zS K (.ref a) σ:=.inl ⟨a,t,aw,rfl,e,h⟩
theorem IF(h:K (cI aw) nK σ):zS K (.fl aw) σ:=.inr ⟨aw,rfl,h⟩
theorem Tz{b:bc}(hb:b.length≤10000)(h:K (ig b.reverse) nK σ):Hz K [.bX b] σ:=⟨b,rfl,hb,h⟩
theorem PA{b:Int}(h0 : -(2 ^ 60)≤b)(h1:b<2 ^ 60){σ:St}{K:List LV→(St→Prop)→St→Prop}(h:K (bL 0 1 b.toNat) nK σ):Dg K [.int b] σ:=⟨b,rfl,h0,h1,h⟩
theorem PB{b:Int}(h0:0≤b)(h1:b<2 ^ 60)(h:K (bL 0 4 ((b+3)/4).toNat) nK σ):Dh K [.int 0,.int b,.int 4] σ:=⟨b,rfl,h0,h1,h⟩
theorem gE{ep:EP}{X:Fx}{ρ:Loc}{σ:St}(h:ET ep X ρ σ e Q)(k:∀v σ,Q v σ→Q' v σ):ET ep X ρ σ e Q':=ET.mono h k
theorem yy(ht:fO aB=true)(h:ET ep X ρ σ bK (MR K)):IE X ρ σ bK aB K ep:=Kc ht h
theorem tR{ep:EP}{X:Fx}{σ:St}{ρ:Loc}{K:List LV→(St→Prop)→St→Prop}{bK aB:Expr}(ht:fO aB=true)(h:ET ep X ρ σ bK (MS K)):IE X ρ σ bK aB K ep:=O4 ht h
theorem yz(ht:fO aB=true)(h:ET ep X ρ σ bK (MT K)):IE X ρ σ bK aB K ep:=Kd ht h
theorem PC{pr ai:Pos}(ht:tc aB=true)(hp:dg [e]=true)
 (hk:X.aa.kindOf (Str.ofString "enumerate")=some .globalImplicit)(hg:X.G.mg (Str.ofString "enumerate")=none)
 (he:eval (.Call (.Name (Str.ofString "enumerate") pr) [e] [] ai) X.aa=(do callWith ai (← eval (.Name (Str.ofString "enumerate") pr) X.aa) [] (backTo ai (starEach [e] X.aa)) (backToKw ai (keywordEach [] X.aa))))
 (h:ET ep X ρ σ e (zS K)):IE X ρ σ (.Call (.Name (Str.ofString "enumerate") pr) [e] [] ai) aB K ep:=Ke ht hp hk hg h he
theorem TA{pr ai:Pos}(ht:fO aB=true)(hp:dg [e]=true)
 (hk:X.aa.kindOf (Str.ofString "reversed")=some .globalImplicit)(hg:X.G.mg (Str.ofString "reversed")=none)
 (he:eval (.Call (.Name (Str.ofString "reversed") pr) [e] [] ai) X.aa=(do callWith ai (← eval (.Name (Str.ofString "reversed") pr) X.aa) [] (backTo ai (starEach [e] X.aa)) (backToKw ai (keywordEach [] X.aa))))
 (h:EA X ρ [e] σ (Hz K) ep):IE X ρ σ (.Call (.Name (Str.ofString "reversed") pr) [e] [] ai) aB K ep:=Mp ht hp hk hg h he
theorem xB{b:Int}(h0:0≤b):Builtin.Range.rangeSize 0 b 4=(((b+3)/4).toNat:Nat):=by
 have e:(b+3)/4=(b-1)/4+1:=by rw[← Int.add_mul_ediv_right (b-1) 1 (by decide:(4:Int)≠0)];exact congrArg (·/4) (show b+3=b-1+4 by room)
 rw[Int.toNat_of_nonneg (Int.ediv_nonneg %[|h0] %[|0])]
 show(if(0:Int)<b then(b-0-1)/4+1 else 0)=_
 by_cases z:0<b
 ·rw[bh z,e,Int.sub_zero]
 rw[aY z,Int.le_antisymm (Int.not_lt.mp z) h0];rfl
theorem vJ{i:Int}(h : -2 ^ 63≤i)(k:i<2 ^ 63):Builtin.Range.rangeFitsLong i=true:=Bool.and_eq_true_iff.mpr ⟨ia h,ia k⟩
theorem Dm:∀ {b:Int} (h0:0≤b) (h1:b<2 ^ 60),Builtin.Range.small 0 b 4=true:=by
 rintro b:(_)
 w_up
 have p:0≤b+3:=by exists h0
 have r:b+3<2 ^ 63:=Int.lt_trans (Int.add_lt_add_right h1 3) %[|0]
 have n:0≤(b+3)/4:=Int.ediv_nonneg p %[|0]
 unfold Builtin.Range.small
 rw[xB h0,Int.toNat_of_nonneg n,bh %[|0],show(4:Int)-1=3 by decide,vJ (i:=0) %[|0] %[|0],vJ (i:=b) (qg %[|0] h0) (Int.lt_trans h1 %[|0]),vJ (i:=4) %[|0] %[|0],
  vJ (i:=(b+3)/4) (qg %[|0] n) (Int.lt_of_le_of_lt (Int.ediv_le_self _ p) r),vJ (i:=b+3) (qg %[|0] p) r,Bool.or_true]
 rfl
theorem KA{pr ai:Pos}(ht:fO aB=true)(hp:dg [e]=true)
 (hk:X.aa.kindOf (Str.ofString "range")=some .globalImplicit)(hg:X.G.mg (Str.ofString "range")=none)
 (he:eval (.Call (.Name (Str.ofString "range") pr) [e] [] ai) X.aa=(do callWith ai (← eval (.Name (Str.ofString "range") pr) X.aa) [] (backTo ai (starEach [e] X.aa)) (backToKw ai (keywordEach [] X.aa))))
 (h:EA X ρ [e] σ (Dg K) ep):IE X ρ σ (.Call (.Name (Str.ofString "range") pr) [e] [] ai) aB K ep:=
 zl ht hp hk hg (h.mono fun vs ah bR=>by obtain⟨b,h1,h2,h3,h4⟩:=bR;exact⟨0,b,1,b.toNat,.inl ⟨h1,rfl,rfl⟩,small_one %[|0] %[|0] %[|h2] %[|h3],by rw[rangeSize_nat,Int.sub_zero],h4⟩) he
theorem KC{e1 e2 e3:Expr}{pr ai:Pos}(ht:fO aB=true)(hp:dg [e1,e2,e3]=true)
 (hk:X.aa.kindOf (Str.ofString "range")=some .globalImplicit)(hg:X.G.mg (Str.ofString "range")=none)
 (he:eval (.Call (.Name (Str.ofString "range") pr) [e1,e2,e3] [] ai) X.aa=(do callWith ai (← eval (.Name (Str.ofString "range") pr) X.aa) [] (backTo ai (starEach [e1,e2,e3] X.aa)) (backToKw ai (keywordEach [] X.aa))))
 (h:EA X ρ [e1,e2,e3] σ (Dh K) ep):IE X ρ σ (.Call (.Name (Str.ofString "range") pr) [e1,e2,e3] [] ai) aB K ep:=
 zl ht hp hk hg (h.mono fun vs ah bR=>by obtain⟨b,h1,h2,h3,h4⟩:=bR;exact⟨0,b,4,((b+3)/4).toNat,.inr (.inr ⟨h1,by decide,PyProof.noPylong_small %[|0]⟩),Dm h2 h3,xB h2,h4⟩) he
noncomputable def zT(X:Fx):List Expr→Loc→St→List LV→(Loc→St→Prop)→EP→Prop
 |[],ρ,σ,_,Q,_=>Q ρ σ
 |e::es,ρ,σ,v::vs,Q,ep=>AS ep ρ σ X (assign e X.aa) (fun aC ah=>zT X es aC ah vs Q ep) v
 |_::_,ρ,σ,[],Q,_=>Q ρ σ
noncomputable abbrev TC(X:Fx)(es:List Expr)(vs:List LV)(QA:Loc→St→Prop)(ep:EP):Loc→St→Prop:=fun aC ah=>zT X es aC ah vs QA ep
theorem BB:∀ {es:List Expr} {vs:List LV} {ρ:Loc} {σ:St},zT X es ρ σ vs QA ep→Bq X (es.map fun e=>assign e X.aa) ρ σ vs QA ep:=by
 intro es
 induction es with
 |nil=>intro _ _ _ h;exact h
 |cons x xs ih =>
  intro vs _ _ h;cases vs with
  |nil=>exact h
  |cons v vs=>exact fun hc φ s w hA hF rv=>aL (h hc φ s w hA hF rv) (fun _ _ bR=>by obtain⟨aH,σ',bt,S,F,z⟩:=bR;exact⟨aH,σ',bt,S,F,ih z⟩) fun _ _ e=>e
theorem VJ{ep:EP}{X:Fx}{σ:St}{ρ:Loc}(h:QA ρ σ):zT X [] ρ σ vs QA ep:=h
theorem UM{ep:EP}{X:Fx}{σ:St}{QA:Loc→St→Prop}{e:Expr}{es:List Expr}{v:LV}{ρ:Loc}{vs:List LV}(h:AS ep ρ σ X (assign e X.aa) (TC X es vs QA ep) v):zT X (e::es) ρ σ (v::vs) QA ep:=h
theorem vK{ep:EP}{X:Fx}{ρ:Loc}{σ:St}(hl:(assignEach elts X.aa).length=vs.length)(mL:(assignEach elts X.aa).findIdx? (·.1)=none)(he:(assignEach elts X.aa).map (·.2)=elts.map fun e=>assign e X.aa)(h:zT X elts ρ σ vs QA ep):AS ep ρ σ X (assign (.Tuple elts k p) X.aa) QA (.tup vs):=
 GZ hl mL (by rw[he];exact BB h)
end
end Lake
end
section
namespace Lake
noncomputable def MU(e:Expr):Bool:=PySem.swappedStores.match_5 (fun _=>Bool) e (fun _ _=>true) fun _=>false
noncomputable def BC(sn:List (Str×NameKind))(ts:List Expr):List Str:=ts.filterMap fun t=>PySem.swappedStores.match_8 (fun _=>Option Str) t (fun id ai=>if sn.lookup id==some .local&&ai.line==(ts.head?.map (·.pos.line)).getD 0 then some id else none) fun _=>none
noncomputable def MV(sn:List (Str×NameKind))(ts vs:List Expr)(names:List Str):Bool:=
 (ts.length==2||ts.length==3)&&vs.length==ts.length&&!(vs.any MU)&&BC sn ts==names&&names.length==ts.length&&names.eraseDups.length==names.length&&!(vs.all (foldedForSure 8))&&!(vs.all (constantsAlone 8))
theorem Dn:∀ {aa:Env} {ts vs:List Expr} {names:List Str} {k k2:Nat} {p p2:Pos} (hk:aa.scope.kind=.function) (h:MV aa.scope.names ts vs names=true),swappedStores [.Tuple ts k p] (.Tuple vs k2 p2) aa=pure (some names):=by
 rintro aa ts vs names k k2 p:(_)
 rintro p2:(_)
 w_up
 unfold MV at h
 simp only[jA,Bool.or_eq_true,beq_iff_eq,Bool.not_eq_true']at h
 obtain⟨⟨⟨⟨⟨⟨⟨h1,h2⟩,h3⟩,h4⟩,h5⟩,h6⟩,h7⟩,h8⟩:=h
 unfold swappedStores
 have hb:(aa.blockKind != ScopeKind.function)=false:=by unfold Env.blockKind;rw[hk];rfl
 have EM:(!(ts.length==2||ts.length==3))=false:=by rcases h1 with h|h<;>rw[h]<;>rfl
 have rK:(vs.length != ts.length)=false:=by rw[h2];simp
 refine(aY (by rw[EM,rK,hb];exact mw)).trans ?_
 refine(aY (fun z=>Bool.noConfusion (h3.symm.trans z))).trans ?_
 refine(aY ?_).trans ?_
 ·show ¬((BC aa.scope.names ts).length != ts.length||(BC aa.scope.names ts).eraseDups.length != (BC aa.scope.names ts).length)=true;rw[h4,h6,h5];simp
 refine(aY (fun z=>Bool.noConfusion (h7.symm.trans z))).trans ?_
 refine(aY (fun z=>Bool.noConfusion (h8.symm.trans z))).trans ?_
 exact congrArg (fun x=>pure (some x)) h4
noncomputable def zU(X:Fx):List Str→Loc→St→List LV→(Loc→St→Prop)→EP→Prop
 |[],ρ,σ,_,Q,_=>Q ρ σ
 |x::xs,ρ,σ,v::vs,Q,ep=>AS ep ρ σ X (fun w=>storeName X.aa x w) (fun aC ah=>zU X xs aC ah vs Q ep) v
 |_::_,ρ,σ,[],Q,_=>Q ρ σ
section
variable {X:Fx}{ρ:Loc}{σ:St}{Q:LF→Loc→St→Prop}{QA:Loc→St→Prop}{ep:EP}
theorem KD:∀ {xs:List Str} {vs:List LV} {ρ:Loc} {σ:St},zU X xs ρ σ vs QA ep→Bq X (xs.map fun x w=>bindName X.aa x w) ρ σ vs QA ep:=by
 intro xs
 induction xs with
 |nil=>intro _ _ _ h;exact h
 |cons x xs ih =>
  intro vs _ _ h;cases vs with
  |nil=>exact h
  |cons v vs=>exact Kb fun hc φ s w hA hF rv=>aL (h hc φ s w hA hF rv) (fun _ _ bR=>by obtain⟨aH,σ',bt,S,F,z⟩:=bR;exact⟨aH,σ',bt,S,F,ih z⟩) fun _ _ e=>e
noncomputable abbrev TF(X:Fx)(xs:List Str)(vs:List LV)(QA:Loc→St→Prop)(ep:EP):Loc→St→Prop:=fun aC ah=>zU X xs aC ah vs QA ep
theorem YL{ep:EP}{X:Fx}{ρ:Loc}{σ:St}{QA:Loc→St→Prop}(h:QA ρ σ):zU X [] ρ σ vs QA ep:=h
theorem mq{ep:EP}{X:Fx}{σ:St}{QA:Loc→St→Prop}{ρ:Loc}{xs:List Str}(h:AS ep ρ σ X (fun w=>storeName X.aa x w) (TF X xs vs QA ep) v):zU X (x::xs) ρ σ (v::vs) QA ep:=h
noncomputable abbrev Q4(X:Fx)(ρ:Loc)(Q:LF→Loc→St→Prop)(ep:EP)(names:List Str):LV→St→Prop:=fun v ah=>∃vs,v=.tup vs∧vs.length=names.length∧zU X names.reverse ρ ah vs.reverse (vH Q) ep
theorem xC(hl:vs.length=names.length)(h:zU X names.reverse ρ σ vs.reverse (vH Q) ep):Q4 X ρ Q ep names (.tup vs) σ:=⟨vs,rfl,hl,h⟩
theorem oB{k2:Nat}{ep:EP}{X:Fx}{ρ:Loc}{σ:St}{Q:LF→Loc→St→Prop}{vs:List Expr}{p2 ai:Pos}(names:List Str)(hk:X.aa.scope.kind=.function)(eT:X.aa.scope.names=sn)(hb:MV sn ts vs names=true)(hs:swapsWithSole [.Tuple ts k p] (.Tuple vs k2 p2) ai.line X.aa=pure false)(h:ET ep X ρ σ (.Tuple vs k2 p2) (Q4 X ρ Q ep names)):ST ep σ ρ X Q (exec (.Assign [.Tuple ts k p] (.Tuple vs k2 p2) ai) X.aa):=
 Cw (n:=names.length) rfl (h.mono fun _ _ bR=>by obtain⟨vs,h1,h2,h3⟩:=bR;exact⟨vs,h1,h2,KD h3⟩) hs (Dn hk (by rw[eT];exact hb))
theorem Zj{ep:EP}{X:Fx}{σ:St}{ρ:Loc}{Q:LF→Loc→St→Prop}{ai:Pos}(hs:swapsWithSole [.Tuple ts k p] e ai.line X.aa=pure false)(hw:swappedStores [.Tuple ts k p] e X.aa=pure none)(he:(assignEach [.Tuple ts k p] X.aa).map (·.2)=[assign (.Tuple ts k p) X.aa])(h:ET ep X ρ σ e (yx ep X ρ Q (.Tuple ts k p))) :
  ST ep σ ρ X Q (exec (.Assign [.Tuple ts k p] e ai) X.aa):=mN h hs hw he
end
structure FrS(c:Ctx)(aa:Env)(sn:List (Str×NameKind)):Prop where
 names:aa.scope.names=sn
 bA:∃outer L,c.bA=aa::outer∧aa.frame=some L
 inter:interactive aa=false
 kind:aa.scope.kind=.function
theorem CallT.fnS{n:Nat}{f:Addr}{nm:Str}(hK:G.K.lookup f=some fo)(hd:fo.data=.func ⟨nm,qn,ps,.stmts aZ,⟨.function,sn,false,false,more⟩,mainGlobals,[],dV,kV,doc,pm,an,cd,ct,builtinsNs⟩)(gc:codeIn G.K cd qn=true)(dB:∀(vs:List Value),vs.length=az.length→bindArgs ⟨nm,qn,ps,.stmts aZ,⟨.function,sn,false,false,more⟩,mainGlobals,[],dV,kV,doc,pm,an,cd,ct,builtinsNs⟩ ⟨vs,[]⟩=pure (names.zip vs))(hlen:names.length=az.length)(fB:names.Nodup)(jg:(sn.all fun x=>!(x.2==.cell))=true)(lG:(names.all fun x=>sn.lookup x==some .local)=true)(h:∀(c:Ctx) (aa:Env),aa.scope.names=sn→(∃outer L,c.bA=aa::outer∧aa.frame=some L)→interactive aa=false→aa.scope.kind=.function→ST ep σ (fq names az) ⟨G,c,aa,n⟩ (fun lf _ σ'=>Q lf.val σ') (execs aZ aa)):CallT (n+1) ⟨false,ep.Q⟩ (.ref f) G σ Q az:=by
 refine CallT.QM hK hd rfl rfl gc dB hlen fB jg lG rfl rfl rfl (fun c aa hq=>hq.elim fun own F=>h c aa (by rw[F.scope]) F.bA ?_ (by rw[F.scope])) rfl rfl rfl
 show(aa.scope.kind==.module&&_)=false
 rw[F.scope];rfl
theorem CallT.Zk{n:Nat}{f:Addr}{nm:Str}(hK:G.K.lookup f=some fo)(hd:fo.data=.func ⟨nm,qn,ps,.stmts aZ,⟨.function,sn,false,false,more⟩,mainGlobals,[],dV,kV,doc,pm,an,cd,ct,builtinsNs⟩)(gc:codeIn G.K cd qn=true)(dB:∀(vs:List Value),vs.length=az.length→bindArgs ⟨nm,qn,ps,.stmts aZ,⟨.function,sn,false,false,more⟩,mainGlobals,[],dV,kV,doc,pm,an,cd,ct,builtinsNs⟩ ⟨vs,[]⟩=pure (names.zip vs))(hlen:names.length=az.length)(fB:names.Nodup)(ir:(names.all fun y=>sn.lookup y==some .local||sn.lookup y==some .cell)=true)(rR:((cellsFrom 0 sn []).map (·.1)).Nodup)(h:∀(c:Ctx) (aa:Env) (L:Addr),aa.scope.names=sn→(∃outer L,c.bA=aa::outer∧aa.frame=some L)→interactive aa=false→aa.scope.kind=.function→aa.cells=cellsFrom (L+1) sn []→c.own=L::(cellsFrom (L+1) sn []).map (·.2)→
   ST ep σ (fq names az) ⟨G,c,aa,n⟩ (fun lf _ σ'=>Q lf.val σ') (execs aZ aa)):CallT (n+1) ⟨false,ep.Q⟩ (.ref f) G σ Q az:=by
 refine CallT.SR hK hd rfl rfl gc dB hlen fB ir rR rfl rfl rfl (fun c aa L F=>h c aa L (by rw[F.scope]) F.bA ?_ (by rw[F.scope]) F.cells F.own) rfl rfl rfl
 show(aa.scope.kind==.module&&_)=false
 rw[F.scope];rfl
theorem iu{K:LV→St→Prop}(t:Tag)(h:∀D,σ D=none→K (.ref D) (upd σ D (t,.list vs))):eL vs σ K:=.inr ⟨t,h⟩
theorem bu{σ:St}{vs:List LV}{K:LV→St→Prop}(h:K (.fl vs) σ):eL vs σ K:=.inl h
theorem ST.mono{t:Sem Flow}{Q Q':LF→Loc→St→Prop}(h:ST ep σ ρ X Q t)(k:∀f ρ σ,Q f ρ σ→Q' f ρ σ):ST ep σ ρ X Q' t:=fun hc φ s hA hF =>
 aL (h hc φ s hA hF) (fun _ _ bR=>by obtain⟨aX,ah,aC,lf,ax,jZ,bD,aN⟩:=bR;exact⟨aX,ah,aC,lf,ax,jZ,bD,k _ _ _ aN⟩) fun _ _ e=>e
noncomputable abbrev MW(Q:LF→Loc→St→Prop)(I:Loc→St→Prop):LF→Loc→St→Prop:=fun f ρ σ=>match f with|.next=>I ρ σ|f=>Q f ρ σ
theorem sr{Q:LF→Loc→St→Prop}{st:Stmt}{aW:List Stmt}(I:Loc→St→Prop)(h:ST ep σ ρ X (MW Q I) (exec st X.aa))(k:∀bt σ',I bt σ'→ST ep σ' bt X Q (execs aW X.aa)):ST ep σ ρ X Q (execs (st::aW) X.aa):=
 wC (h.mono fun f bt σ' z=>match f,z with|.next,z=>k bt σ' z|.brk,z=>z|.cont,z=>z|.ret _,z=>z)
section
variable (X:Fx)(ρ:Loc)(Q:LF→Loc→St→Prop)(QV:LV→St→Prop)(ep:EP)
noncomputable abbrev MX(aW:List Expr)(ai:Pos)(v:LV):Bool→St→Prop:=fun c ae=>Br c (ET ep X ρ ae (.BoolOp .And aW ai) QV) (QV v ae)
noncomputable abbrev PD(aW:List Expr)(ai:Pos):LV→St→Prop:=fun v ah=>OB truthy ah v ep X (MX X ρ QV ep aW ai v)
noncomputable abbrev PE(aW:List Expr)(ai:Pos)(v:LV):Bool→St→Prop:=fun c ae=>Br c (QV v ae) (ET ep X ρ ae (.BoolOp .Or aW ai) QV)
noncomputable abbrev TG(aW:List Expr)(ai:Pos):LV→St→Prop:=fun v ah=>OB truthy ah v ep X (PE X ρ QV ep aW ai v)
noncomputable abbrev PF(ov:LV):LV→St→Prop:=fun iv ae=>OD X ov iv ae (fun bz=>Q .next ρ bz) ep
noncomputable abbrev TH(i:Expr):LV→St→Prop:=fun ov ah=>ET ep X ρ ah i (PF X ρ Q ep ov)
end
section
variable {X:Fx}{ρ:Loc}{σ:St}{Q:LF→Loc→St→Prop}{QV:LV→St→Prop}{ep:EP}
theorem YM{ep:EP}{op:BoolOp}{X:Fx}{ρ:Loc}{σ:St}{QV:LV→St→Prop}{ai:Pos}(h:ET ep X ρ σ e QV):ET ep X ρ σ (.BoolOp op [e] ai) QV:=JT h
theorem Zl{ep:EP}{ai:Pos}{X:Fx}{ρ:Loc}{σ:St}{QV:LV→St→Prop}(h:ET ep X ρ σ iP (PD X ρ QV ep (kx::aW) ai)):ET ep X ρ σ (.BoolOp .And (iP::kx::aW) ai) QV:=Ls h
theorem eOr{ai:Pos}(h:ET ep X ρ σ iP (TG X ρ QV ep (kx::aW) ai)):ET ep X ρ σ (.BoolOp .Or (iP::kx::aW) ai) QV:=OP h
theorem eoS{ep:EP}{X:Fx}{ρ:Loc}{σ:St}{QV:LV→St→Prop}(h:ET ep X ρ σ e QV):EO X ρ σ (some e) QV ep:=h
theorem eoN{ep:EP}{X:Fx}{ρ:Loc}{σ:St}{QV:LV→St→Prop}(h:QV .none σ):EO X ρ σ none QV ep:=h
theorem K9{k:Int}(e:σ a=some (t,.dict es dp))(hk:c6 es k=some v)(h:QV v σ):bV σ X ep QV [.ref a,.int k] (.builtin "dict.get"):=r8 e (by rw[hk];exact h)
theorem La{k:Int}(e:σ a=some (t,.dict es dp))(hk:c6 es k=none)(h:QV .none σ):bV σ X ep QV [.ref a,.int k] (.builtin "dict.get"):=r8 e (by rw[hk];exact h)
theorem Zm{i:Expr}{ai:Pos}(h:ET ep X ρ σ o (TH X ρ Q ep i)):ST ep σ ρ X Q (exec (.Delete [.Subscript o i p] ai) X.aa):=Me h
end
noncomputable def rh:List (Str×NameKind)→List (Str×Addr)→List (Str×Addr)→Option (List (Str×Addr))
 |[],_,aR=>some aR
 |(n,k)::r,cells,aR=>if k==.free then(match cells.lookup n with|some a=>rh r cells ((n,a)::aR)|none=>none)else rh r cells aR
noncomputable def IG(scope:Scope)(sn:List (Str×NameKind)):Bool:=
 scope.kind==.function&&(scope.names.all fun x=>!(x.2==.local)||scope.names.lookup x.1==some .local)&&(scope.names.all fun x=>!(x.2==.cell))&&(scope.names.all fun x=>!(x.2==.free)||sn.lookup x.1==some .cell)
noncomputable def i9(names sn:List (Str×NameKind)):List (Str×NameKind):=names.map fun x=>if x.2==.free&&sn.lookup x.1==some .cell then(x.1,.cell)else x
noncomputable def qz(xD:List (Str×NameKind))(ρ:Loc):Loc:=fun x=>if xD.lookup x==some .local then none else ρ x
theorem vL(hc:aa.cells=cells):∀ {names:List (Str×NameKind)} {aR cl:List (Str×Addr)},rh names cells aR=some cl→
  (forIn names aR fun x (cs:List (Str×Addr))=>(if x.2==NameKind.free then do let a ← cellOf aa x.1;pure (ForInStep.yield ((x.1,a)::cs))else pure (ForInStep.yield cs):Sem _))=pure cl:=by
 intro names
 induction names with
 |nil=>intro aR cl h;cases h;rfl
 |cons p r ih =>
  intro aR cl h;obtain⟨n,k⟩:=p;rw[forIn_cons];replace h:(if(k==.free)=true then(match cells.lookup n with|some a=>rh r cells ((n,a)::aR)|none=>none)else rh r cells aR)=some cl:=h;by_cases z:(k==NameKind.free)=true
  ·rw[bh z]at h;rw[bh z];cases q:cells.lookup n with
   |none=>nomatch q,h
   |some a =>
    rw[q]at h;have:cellOf aa n=pure a:=by unfold cellOf;rw[hc,q]
    rw[this,pure_bind,pure_bind];exact ih h
  rw[aY z]at h;rw[aY z,pure_bind];exact ih h
theorem vM:∀ {names:List (Str×NameKind)} {aR cl:List (Str×Addr)},rh names cells aR=some cl→cl.lookup x=some a→aR.lookup x=some a∨cells.lookup x=some a∧(x,NameKind.free)∈names:=by
 intro names
 induction names with
 |nil=>intro aR cl h e;cases h;exact .inl e
 |cons p r ih =>
  intro aR cl h e;obtain⟨n,k⟩:=p;replace h:(if(k==.free)=true then(match cells.lookup n with|some a=>rh r cells ((n,a)::aR)|none=>none)else rh r cells aR)=some cl:=h;by_cases z:(k==NameKind.free)=true
  ·rw[bh z]at h;have zk:k=.free:=eq_of_beq z;subst zk;cases q:cells.lookup n with
   |none=>nomatch q,h
   |some b =>
    rw[q]at h;rcases ih h e with h1|hK
    ·rw[lookup_cons]at h1;by_cases y:(x==n)=true
     ·rw[y]at h1;cases h1;have:=eq_of_beq y;subst this;exact .inr ⟨q,gQ ..⟩
     rw[Bool.eq_false_iff.mpr y]at h1;exact .inl h1
    obtain⟨h1,h2⟩:=hK;exact .inr ⟨h1,gb _ h2⟩
  rw[aY z]at h;rcases ih h e with h1|hK
  ·exact .inl h1
  obtain⟨h1,h2⟩:=hK;exact .inr ⟨h1,gb _ h2⟩
theorem MY{cl:List (Str×Addr)}(F1:aa.scope.names=sn)(F5:aa.cells=cells)(dS:rh scope.names cells []=some cl)(hb:IG scope sn=true):CC scope cl aa:=by
 unfold IG at hb
 simp only[jA,all_eq_true,beq_iff_eq]at hb
 obtain⟨⟨⟨h1,h2⟩,h3⟩,h4⟩:=hb
 refine⟨?_,h1,fun x hx z=>?_,fun y hy z=>?_,fun x a e=>?_⟩
 ·have:=vL F5 dS;unfold closureFor;simp only[bind_pure];exact this
 ·have:=h2 x hx;rw[z]at this;simpa using this
 ·have:=h3 y hy;rw[z]at this;simp at this
 rcases vM dS e with h|hK
 ·cases h
 obtain⟨h,k⟩:=hK
 refine⟨by rw[F5];exact h,.inl ?_⟩
 have:=h4 _ k
 show aa.scope.names.lookup x=_
 rw[F1]
 simpa using this
theorem tS{cl:List (Str×Addr)}(F1:aa.scope.names=sn)(F4:aa.scope.kind=.function):(compEnvC scope cl C aa).scope.names=i9 scope.names sn:=by
 show scope.names.map (fun(n,k)=>if(k==NameKind.free&&aa.scope.kind==ScopeKind.function&&aa.kindOf n==some NameKind.cell)then(n,NameKind.cell)else(n,k))=_
 unfold i9
 refine map_congr_left fun x _=>?_
 obtain⟨n,k⟩:=x
 have e:aa.kindOf n=sn.lookup n:=by show aa.scope.names.lookup n=_;rw[F1]
 show(if(k==NameKind.free&&aa.scope.kind==ScopeKind.function&&aa.kindOf n==some NameKind.cell)=true then(n,NameKind.cell)else(n,k))=if(k==NameKind.free&&sn.lookup n==some NameKind.cell)=true then(n,NameKind.cell)else(n,k)
 rw[e,F4]
 simp
theorem KG{cl:List (Str×Addr)}(F1:aa.scope.names=sn)(F4:aa.scope.kind=.function):pd scope cl aa ρ=qz (i9 scope.names sn) ρ:=funext fun x=>by
 unfold pd qz
 have e:(compEnvC scope cl 0 aa).kindOf x=(i9 scope.names sn).lookup x:=by
  show(compEnvC scope cl 0 aa).scope.names.lookup x=_;rw[tS F1 F4]
 rw[e]
 by_cases z:(i9 scope.names sn).lookup x=some .local
 ·rw[bh z,bh (by rw[z];rfl)]
 rw[aY z,aY (fun y=>z (eq_of_beq y))]
section
variable (G:Gd)(c:Ctx)(aa:Env)(n:Nat)(ρ:Loc)(eg aB:Expr)(ifs:List Expr)
noncomputable abbrev TJ(src:St→Prop)(Inv:Nat→List LV→St→Prop)(i:Nat)(aR:List LV):LV→St→Prop:=fun y dZ=>src dZ∧Inv (i+1) (aR++[y]) dZ
noncomputable abbrev TK(src:St→Prop)(Inv:Nat→List LV→St→Prop)(i:Nat)(aR:List LV):Bool→St→Prop:=fun b cg=>Br b (ET b0 ⟨G,c,aa,n⟩ ρ cg eg (TJ src Inv i aR)) (src cg∧Inv (i+1) aR cg)
noncomputable abbrev TL(src:St→Prop)(Inv:Nat→List LV→St→Prop)(i:Nat)(aR:List LV):Loc→St→Prop:=fun aC bz=>LT ⟨G,c,aa,n⟩ aC bz ifs (TK G c aa n aC eg src Inv i aR)
structure Q5(xD:List (Str×NameKind))(cl:List (Str×Addr))(aw:List LV)(src:St→Prop)(Inv:Nat→List LV→St→Prop)(Out:List LV→St→Prop):Prop where
 turn:∀(c:Ctx) (aa:Env),aa.scope.names=xD→aa.cells=cl→∀i v aR ae,aw[i]?=some v→src ae→Inv i aR ae→AS b0 ρ ae ⟨G,c,aa,n⟩ (assign aB aa) (TL G c aa n eg ifs src Inv i aR) v
 fin:∀aR ae,src ae→Inv aw.length aR ae→Out aR ae
noncomputable def IH(xD:List (Str×NameKind))(cl:List (Str×Addr))(Out:List LV→St→Prop):List LV→(St→Prop)→St→Prop:=fun aw src ah=>aw.length≤10000∧∃Inv:Nat→List LV→St→Prop,Inv 0 [] ah∧Q5 G n ρ eg aB ifs xD cl aw src Inv Out
end
section
variable {X:Fx}{ρ:Loc}{σ:St}{ep:EP}{eg aB bK:Expr}{ifs:List Expr}
theorem mH{ifs:List Expr}{n:Nat}{σ:St}{ρ:Loc}{eg aB:Expr}{xD:List (Str×NameKind)}{cl:List (Str×Addr)}(hz:aw.length≤10000)(Inv:Nat→List LV→St→Prop)(h0:Inv 0 [] σ)(h:Q5 G n ρ eg aB ifs xD cl aw src Inv Out) :
  IH G n ρ eg aB ifs xD cl Out aw src σ:=⟨hz,Inv,h0,h⟩
theorem IE.mono{K K':List LV→(St→Prop)→St→Prop}(h:IE X ρ σ bK aB K ep)(k:∀aw src σ,K aw src σ→K' aw src σ):IE X ρ σ bK aB K' ep:=fun hc φ s hA hF =>
 aL (h hc φ s hA hF) (fun _ _ aN=>aL aN (fun _ _ bR=>by obtain⟨bp,ae,it,its,I,aw,src,e1,e2,e3,e4,e5,e6,q⟩:=bR;exact⟨bp,ae,it,its,I,aw,src,e1,e2,e3,e4,e5,e6,k _ _ _ q⟩) fun _ _ e=>e) fun _ _ e=>e
theorem II{cl:List (Str×Addr)}(F1:X.aa.scope.names=sn)(F4:X.aa.scope.kind=.function){ah:St}
 (h:IH X.G X.n (qz (i9 scope.names sn) ρ) eg aB ifs (i9 scope.names sn) cl Out aw src ah):aw.length≤10000∧∃Inv:Nat→List LV→St→Prop,Inv 0 [] ah∧
   (∀C xs i v aR ae,aw[i]?=some v→src ae→Inv i aR ae→u9 (X.comp scope cl C xs) (pd scope cl X.aa ρ) ae eg aB ifs src Inv i v aR)∧
   ∀aR ae,src ae→Inv aw.length aR ae→Out aR ae:=by
 obtain⟨hz,Inv,h0,hI⟩:=h
 refine⟨hz,Inv,h0,fun C xs i v aR ae hv hs hi=>?_,hI.fin⟩
 rw[KG F1 F4]
 exact hI.turn _ _ (tS F1 F4) rfl i v aR ae hv hs hi
theorem ri{ep:EP}{ifs:List Expr}{X:Fx}{ρ:Loc}{σ:St}{eg aB bK:Expr}{cl:List (Str×Addr)}{ai:Pos}(F1:X.aa.scope.names=sn)(F4:X.aa.scope.kind=.function)(F5:X.aa.cells=cells)(dS:rh scope.names cells []=some cl)(hb:IG scope sn=true)(hs:∀x,foldedSetIterable bK X.aa x=pure x)(h:IE X ρ σ bK aB (IH X.G X.n (qz (i9 scope.names sn) ρ) eg aB ifs (i9 scope.names sn) cl (fun aR ae=>eL aR ae Q)) ep):ET ep X ρ σ (.ListComp eg [⟨aB,bK,ifs,0⟩] scope ai) Q:=
 O8 (MY F1 F5 dS hb) (h.mono fun _ _ _ k=>II F1 F4 k) hs
noncomputable abbrev TM(X:Fx)(ρ:Loc)(Q:LF→Loc→St→Prop)(y:Str):List LV→St→Prop:=fun aR ae=>eL aR ae (fun v bz=>∀its,AS b0 ρ bz ⟨X.G,X.c.add its,X.aa,X.n⟩ (fun w=>storeName X.aa y w) (vH Q) v)
noncomputable def Q6(sn:List (Str×NameKind))(y:Str)(l1 l2:Nat)(scope:Scope):Bool:=sn.lookup y==some .local&&l1==l2&&!(scope.names.any fun x=>x.1==y&&(x.2==.local||x.2==.cell))
theorem IJ{cl:List (Str×Addr)}{ai zp py:Pos}{y:Str}{Q:LF→Loc→St→Prop}(F1:X.aa.scope.names=sn)(F4:X.aa.scope.kind=.function)(F5:X.aa.cells=cells)(dS:rh scope.names cells []=some cl)(hb:IG scope sn=true)
 (hw:Q6 sn y py.line ai.line scope=true)(hs:∀x,foldedSetIterable bK X.aa x=pure x)
 (h:IE X ρ σ bK aB (IH X.G X.n (qz (i9 scope.names sn) ρ) eg aB ifs (i9 scope.names sn) cl (TM X ρ Q y)) ep) :
  ST ep σ ρ X Q (exec (.Assign [.Name y py] (.ListComp eg [⟨aB,bK,ifs,0⟩] scope ai) zp) X.aa):=by
 refine O9 (MY F1 F5 dS hb) ?_ (h.mono fun _ _ _ k=>II F1 F4 k) hs
 have vN:X.aa.blockKind=.function:=by unfold Env.blockKind;rw[F4];rfl
 have hk:X.aa.kindOf y=sn.lookup y:=by show X.aa.scope.names.lookup y=_;rw[F1]
 unfold swapsWith
 show(do return X.aa.blockKind==.function&&X.aa.kindOf y==some .local&&py.line==ai.line&&!(scope.names.any fun(n,k)=>n==y&&(k==.local||k==.cell)):Sem Bool)=pure true
 rw[vN,hk]
 unfold Q6 at hw
 exact congrArg pure hw
theorem YN{K:Bool→St→Prop}(h:K true σ):LT X ρ σ [] K:=h
theorem YO{K:Bool→St→Prop}(h:IT b0 X σ ρ K e):LT X ρ σ [e] K:=h
theorem YQ{ep:EP}{sn:List (Str×NameKind)}{cells:List (Str×Addr)}{X:Fx}{σ:St}{ρ:Loc}(eT:X.aa.scope.names=sn){x:Str}{v:LV}{a:Addr}(hk:(sn.lookup x==some .cell)=true)(F5:X.aa.cells=cells)(ha:cells.lookup x=some a)(hv:ρ x=some v)(hd:(x==("__debug__" : Str))=false){ai:Pos}{Q:LV→St→Prop}(h:Q v σ):ET ep X ρ σ (.Name x ai) Q:=
 JQ (cu eT hk) (by rw[F5];exact ha) hv h hd
theorem YR{ai:Pos}(eT:X.aa.scope.names=sn)(hk:(sn.lookup x==some .free)=true)(F5:X.aa.cells=cells)(ha:cells.lookup x=some a)(hv:ρ x=some v)(hd:(x==("__debug__" : Str))=false)(hn:(x==("__classdict__" : Str))=false)(h:Q v σ):ET ep X ρ σ (.Name x ai) Q:=
 JR (cu eT hk) (by rw[F5];exact ha) hv h hd hn
theorem Dp:∀ {cells:List (Str×Addr)},cells.lookup x=some a→a∈cells.map (·.2):=by
 intro cells
 induction cells with
 |nil=>intro h;cases h
 |cons p r ih =>
  intro h;rw[lookup_cons]at h;by_cases z:(x==p.1)=true
  ·rw[z]at h;cases h;exact gQ ..
  rw[Bool.eq_false_iff.mpr z]at h;exact gb _ (ih h)
theorem YS{ep:EP}{X:Fx}{σ:St}(eT:X.aa.scope.names=sn){ρ:Loc}(hk:(sn.lookup x==some .cell)=true)(F5:X.aa.cells=cells)(F6:X.c.own=L::cells.map (·.2))(ha:cells.lookup x=some a)(h:QA (ρ.put x v) σ) :
  AS ep ρ σ X (fun w=>storeName X.aa x w) QA v:=JZ (cu eT hk) (by rw[F5];exact ha) (by rw[F6];exact gb _ (Dp ha)) h
theorem YT(hz:vs.length≤100000)(h:Q (.int vs.length) σ):bV σ X ep Q [.fl vs] (.builtin "len"):=nE (.inl (.inl rfl)) hz h
end
noncomputable def HA(sn:List (Str×NameKind))(ts vs:List Expr):Bool:=(BC sn ts).length != ts.length||vs.all (foldedForSure 8)
theorem zV:∀ {aa:Env} {sn:List (Str×NameKind)} {ts vs:List Expr} {k k2:Nat} {p p2:Pos} (eT:aa.scope.names=sn) (h:HA sn ts vs=true),swappedStores [.Tuple ts k p] (.Tuple vs k2 p2) aa=pure none:=by
 rintro aa sn ts vs k k2 p:(_)
 rintro p2:(_)
 w_up
 subst eT
 unfold HA at h
 rw[Bool.or_eq_true]at h
 unfold swappedStores
 refine(wB rfl ?_)
 refine(wB rfl ?_)
 rcases h with h|h
 ·refine bh ?_;show((BC aa.scope.names ts).length != ts.length||_)=true;rw[h];rfl
 refine wB rfl (bh h)
section
variable {X:Fx}{ρ:Loc}{σ:St}{Q:LF→Loc→St→Prop}{QA:Loc→St→Prop}{ep:EP}
theorem YU{vs:List Expr}{k2:Nat}{p2 ai:Pos}(hs:swapsWithSole [.Tuple ts k p] (.Tuple vs k2 p2) ai.line X.aa=pure false)(eT:X.aa.scope.names=sn)(hb:HA sn ts vs=true)(he:(assignEach [.Tuple ts k p] X.aa).map (·.2)=[assign (.Tuple ts k p) X.aa])(h:ET ep X ρ σ (.Tuple vs k2 p2) (yx ep X ρ Q (.Tuple ts k p))) :
  ST ep σ ρ X Q (exec (.Assign [.Tuple ts k p] (.Tuple vs k2 p2) ai) X.aa):=mN h hs (zV eT hb) he
theorem tL{w:World}{ai:Pos}{t:Addr}{aw:Array Value}{Q:Unit→aG→Prop}(hh:A.handled=none)(ht:s.heap.IsList t aw)(hn:(assignEach elts aa).length=aw.size)
 (mL:(assignEach elts aa).findIdx? (·.1)=none)
 (h:∀h',Heap.ExtBut s.heap.objs.size s.heap h'→wpAny (model aq w) A {s with heap:=h'} E (assignInOrder ((assignEach elts aa).map (·.2)) aw.toList) Q) :
  wpAny (model aq w) A s E (assign (.Tuple elts k ai) aa (.ref t)) Q:=by
 rw[assign_Tuple]
 unfold unpack
 rw[hn,mL]
 exact b9 (ak (bo (aD (kun_itemsOf hh ht h))))
theorem yA(hv:g7 σ v vs)(hl:(assignEach elts X.aa).length=vs.length)(mL:(assignEach elts X.aa).findIdx? (·.1)=none)
 (he:(assignEach elts X.aa).map (·.2)=elts.map fun e=>assign e X.aa)(h:zT X elts ρ σ vs QA ep):AS ep ρ σ X (assign (.Tuple elts k p) X.aa) QA v:=fun hc φ s w hA hF rv=>by
 obtain⟨a,xs,rfl,ht,hv⟩:=hv.at hA rv
 have hs:xs.size=vs.length:=by rw[← hv.length];simp
 refine tL hc.handled ht (by rw[hl,hs]) mL fun h' hx=>?_
 rw[he]
 have S:aV X.G X.c X.c.out s φ {s with heap:=h'} φ σ:=(aV.keeps hA (n:=s.toks) (kj hx)).bP
 exact aL (wF (BB h) hc S.at_ (hF.step (.refl _) (.keeps (kj hx))) hv) (fun _ aO bR=>by obtain⟨bp,ae,cz,aP,fQ,bE⟩:=bR;exact⟨bp,ae,cz,S.trans aP,fQ,bE⟩) fun _ _ e=>e.up S
end
theorem HB{x:Str}{ρ:Loc}{v:LV}:(ρ.put x v) x=some v:=by simp[Loc.put]
theorem lk{x:Str}{r:Option LV}{qq ρ:Loc}(h:qq x=r)(e:ρ x=qq x):ρ x=r:=e.trans h
theorem TN{y x:Str}(h:(x==y)=false){r:Option LV}{ρ:Loc}(k:ρ x=r){v:LV}:(ρ.put y v) x=r:=by
 have:x≠y:=fun e=>by rw[e]at h;simp at h
 simp[Loc.put,this,k]
section
variable {X:Fx}{ρ:Loc}{σ:St}{Q:LV→St→Prop}{ep:EP}
noncomputable abbrev VK(k:Str)(v:LV)(Qp:List (Str×LV)→St→Prop):List (Str×LV)→St→Prop:=fun vs ae=>Qp ((k,v)::vs) ae
noncomputable abbrev VL(X:Fx)(ρ:Loc)(ep:EP)(k:Str)(r:List (Str×Expr))(Qp:List (Str×LV)→St→Prop):LV→St→Prop:=fun v ah=>xv X ρ r ah (VK k v Qp) ep
theorem YV(h:Qp [] σ):xv X ρ [] σ Qp ep:=h
theorem VM{k:Str}{r:List (Str×Expr)}(h:ET ep X ρ σ e (VL X ρ ep k r Qp)):xv X ρ ((k,e)::r) σ Qp ep:=h
noncomputable def MZ(keys:List Str)(t:Tag)(D:Addr)(Q:LV→St→Prop):List (Str×LV)→St→Prop:=fun vs ah=>vs.map (·.1)=keys→ah D=some (t,.eC [])∧Q (.ref D) (upd ah D (t,.eC vs))
theorem VN{keys:List Str}{D:Addr}{vs:List (Str×LV)}(e:σ D=some (t,.eC []))(h:Q (.ref D) (upd σ D (t,.eC vs))):MZ keys t D Q vs σ:=fun _=>⟨e,h⟩
theorem M0{es:List ((Str×Pos)×Expr)}{ai:Pos}(t:Tag)(hk:keys=es.map fun e=>some (.Constant (.str e.1.1) 0 e.1.2))(hv:values=es.map (·.2))
 (nq:(evalEachOpt keys X.aa).zip ((evalEach values X.aa).map fun v=>do let x ← v;standAt ai;pure x)=(lN X.aa ai es).map fun p=>(some p.1,p.2))(h0:es≠[])(hlen:es.length≤15)(hn:(es.map (·.1.1)).Nodup)
 (h:∀D,σ D=none→xv X ρ (es.map fun e=>(e.1.1,e.2)) (upd σ D (t,.eC [])) (MZ (es.map (·.1.1)) t D Q) ep):ET ep X ρ σ (.Dict keys values ai) Q:=
 Hh hk hv nq h0 hlen hn ⟨t,h⟩
end
section
variable {X:Fx}{ρ:Loc}{σ:St}{Q:LV→St→Prop}{ep:EP}
theorem oC(e:σ a=some (t,.dict es dp))(hz:es.length≤100000)(h:Q (.int es.length) σ):bV σ X ep Q [.ref a] (.builtin "len"):=fun _ φ s ws hA hv=>by
 obtain⟨w,r,rfl,h1,h2⟩:=hv.cons_inv
 have:=bg.bO.mp h2;subst this
 have h1:w=.ref a:=h1
 subst h1
 obtain⟨bf,hd,hr⟩:=ez hA e
 have hl:=hr.length
 refine aD (call_len_dict (hA.rep.gC e) hd.dictOf %[hz|hl] ?_)
 exact⟨φ,σ,.int es.length,aV.toks hA _,⟨_,by rw[hl]⟩,h⟩
end
open JL
section
variable {aq:Program}{w:World}{A:Around}{R:Result→aG→Prop}{s:aG}
theorem yo
 (h:wpAny (model aq w) (A.deeper aa) s (fun e' s'=>wpAny (model aq w) (A.deeper aa) s' (fun El bQ=>R (.error El) bQ) (leaving aa e') (fun _ bQ=>R (.error e') bQ)) (eval e aa) (fun v s'=>R (.ok (.ret v)) s')):bw (model aq w) A (.expr e aa) R s:=by
 refine bU rfl ?_
 show wpAny _ (A.deeper aa) s _ (do point;ret (← (eval e aa).onRaise (leaving aa))) _
 exact ak (oW (seq (fY h) fun v _ k=>ao k))
theorem uA:∀ {a:Addr} {az:Args} {o:Obj} {fd:FuncData} {aZ:Expr} (lU:A.depth<recursionLimit) (ho:s.heap.get? a=some o) (dJ:o.data=.func fd) (ma:fd.scope.isCoroutine=false) (i5:fd.scope.isGenerator=false) (gY:fd.body=.expr aZ) (gc:s.heap.CodeRec fd.code fd.qualname) (h:wpAny (model aq w) A.in1 s (fun e s'=>R (.error e) s') (bindArgs fd az) (fun binds aj=>wpAny (model aq w) A.in1 aj (fun e s'=>R (.error e) s') (newFunctionEnv fd.scope fd.globals fd.closure binds (fd.qualname++".<locals>.") (some a) fd.code none fd.builtins) (fun aa aO=>aO.heap.NoLimit∧bw (model aq w) A (.expr aZ aa) R aO))),bw (model aq w) A (.call (.ref a) az) R s:=by
 revert aq w A R s
 rintro aq w A R s a az o fd:(_)
 rintro aZ:(_)
 w_up
 refine bU rfl ?_
 obtain⟨c,oc,vs,tq,hc,md,og,hq⟩:=gc
 rw[hc]at h
 show wpAny _ A.in1 s _ (callAny (.ref a) az) _
 unfold callAny
 refine leaf (ku ho ?_)
 rw[dJ]
 show wpAny _ _ _ _ (callFunction a fd az) _
 unfold callFunction
 rw[hc,gY,i5,ma]
 refine leaf (m:=field (.ref c) 1) (jW md og hq (known ?_))
 exact seq h fun _ _ k=>seq k fun _ _ k=>leaf (wpAny_enterFrame k.1 lU (ao ⟨rfl,k.2⟩))
end
theorem vO:∀ {ai:Pos} {a b:Int} {c cv:Value} (l:List Value) (h:TriplesOk l) (e:codeAmong ai (l++[rawInt a,rawInt b,c])=some cv),codeAmong ai l=some cv∨cv=c:=by
 rintro ai a b c cv:(_)
 rintro l:(_)
 w_up
 fun_induction TriplesOk l with
 |case1 =>
  simp only[nil_append,codeAmong,rawInt]at e;split at e
  ·cases e;exact .inr rfl
  cases e
 |case2 a' t b' u x aW ih =>
  simp only[List.cons_append,codeAmong]at e ⊢;split at e
  ·rename_i hc;rw[bh hc];exact .inl e
  rename_i hc;rw[aY hc];exact ih h e
 |case3 l h1 h2=>exact h.elim
theorem KH{hp:Heap}{cv:Value}{q:Str}(R:Rep G φ σ hp)(h:me φ cv q):hp.CodeRec cv q:=by
 obtain⟨c,o,vs,t,h1,h2,h3,h4⟩:=h
 exact⟨c,o,vs,t,h1,(R.fz _ _ h2).1,h3,h4⟩
noncomputable def ti(φ:FZ)(a:Addr)(qual:Str)(params:Arguments)(aZ:Expr)(scope:Scope)(dO:List (Str×Addr)):Prop:=
 ∃pm c' tT,φ a=some (kla_obj "<lambda>" qual params aZ scope dO pm c' tT)∧me φ (.ref c') qual
theorem ti.mono(x:Ext φ aH){qual:Str}{params:Arguments}{aZ:Expr}(h:ti φ a qual params aZ scope dO):ti aH a qual params aZ scope dO:=by
 obtain⟨pm,c',tT,h1,h2⟩:=h
 exact⟨pm,c',tT,x _ _ h1,h2.mono x⟩
noncomputable def qA(G:Gd):Prop:=∃bm o,G.mg "__builtins__"=some (.ref bm)∧bm≠builtinsNs∧bm≠mainGlobals∧G.hb.get? bm=some o∧o.cls=.type "module"∧o.dict=some builtinsNs∧o.data=.plain
theorem HC:∀ {X:Fx} {ρ:Loc} {σ:St} {φ:FZ} {s:aG} {E:bN} {Q:bN} {c P:Addr} {t:Tag} {qual:Str} {params:Arguments} {aZ:Expr} {scope:Scope} {ai:Pos} {dO:List (Str×Addr)} (hA:At φ s σ X.c X.G) (hF:cV X.aa X.c ρ φ s.heap) (dS:closureFor scope X.aa=pure dO) (yB:X.aa.code=.ref c) (hd:codeHdIn X.G.K c P=true) (hq:X.aa.qual++"<lambda>"=qual) (hP:σ P=some (t,.table qual)) (hb:qA X.G) (qB:defaultsOf params X.aa=([],[])) (h:∀s' aH a,aV X.G X.c X.c.pv s φ s' aH σ→ti aH a qual params aZ scope dO→Q (.ref a) s'),PySem.wpAny X.G.M X.c.A (eval (.Lambda params aZ scope ai) X.aa) Q E s:=by
 rintro X ρ σ φ s E Q c P t qual params aZ scope ai dO:(_)
 w_up
 subst hq
 refine Lake.ex1 (hA.rep.ob _ _ _ hP) ?_
 rintro ps:(_)
 rintro⟨mI,hT,hC⟩:_
 refine Lake.ex2 (hb) ?_
 (first|clear hb|skip)
 rintro bm ob:(_)
 rintro⟨b1,b2,b3,b4,b5,b6,b7⟩:_
 have M1:=hA.rep.Ej b4
 have tab:∀b o,s.heap.get? b=some o→o.cls≠.none→b≠P:=fun b o e z y=>by
  rw[y,mI]at e;cases e;exact z rfl
 have Q7:bm≠P:=tab _ _ M1 (by rw[b5];exact fun z=>by cases z)
 have VO:mainGlobals≠P:=fun y=>by
  obtain⟨o,es,ep,e,hd,_⟩:=hA.rep.g;rw[y,mI]at e;cases e;cases hd
 have hg:s.heap.Ns mainGlobals X.G.mg:=hA.rep.g
 refine kla_eval qB ?_
 cases hq:codeAmong ai ps.toList with
 |some cv =>
  obtain⟨c',oc,fs,tq,rfl,zW,xE,VP⟩:=hC _ _ hq;refine kla_makeFunctionHit (mg:=X.G.mg) dS hF.gl hg yB (codeHd_of_K hA.rep.K hd) mI hT hq ⟨bm,ob,b1,b2,b3,Q7,M1,b5,b6,b7⟩ fun tT h' tk hk hsz=>?_;have ax:aV X.G X.c X.c.pv s φ {s with heap:=h',toks:=tk} φ σ:=aV.keeps hA hk;have aP:=aV.freeze (n:=tk) ax.at_ (cF h' (kla_obj "<lambda>" (X.aa.qual++"<lambda>") params aZ scope dO ((X.G.mg "__name__").getD .none) c' tT)) (bC h') (eO _ rfl);exact h _ _ _ (ax.trans aP) ⟨_,c',tT,gZ ..,me.mono aP.ext ⟨c',oc,fs,tq,rfl,zW,xE,VP⟩⟩
 |none =>
  refine kla_makeFunction (mg:=X.G.mg) dS hF.gl hg yB (codeHd_of_K hA.rep.K hd) mI hT hq VO ⟨bm,ob,b1,b2,b3,Q7,M1,b5,b6,b7⟩ ?_;rintro c' tT h':(_);rintro tk:(_);intro hx VQ tO M3 Q8;refine Lake.ex4 (M3) ?_
  (first|clear M3|skip)
  rintro c₂ oc vs:(_);rintro tq:(_);rintro⟨e2,md,dJ,hv⟩:_;cases e2;have IK:Heap.SameBut P h' (h'.update P fun _=>tabObj ps):=lz ..;have VS:(h'.update P fun _=>tabObj ps).get? P=some (tabObj ps):=mZ _ Q8 rfl
  have k:∀b o,s.heap.get? b=some o→(h'.update P fun _=>tabObj ps).get? b=some o:=fun b o e=>by
   by_cases z:b=P
   ·subst z;rw[mI]at e;cases e;exact VS
   rw[IK.2 b z];exact hx b o z e
  have hn:s.heap.get? c'=none:=jz VQ;have cP:c'≠P:=by first|exact Lake.cR mI hn|exact Lake.cD mI hn|exact Lake.iI mI hn rfl|exact Lake.fG mI hn rfl|exact(fun z=>by rw[z,mI]at hn;cases hn)
  have ax:=aV.freeze (n:=tk) hA k hn ((IK.2 c' cP).trans md);have fc:me (iQ φ c' oc) (.ref c') (X.aa.qual++"<lambda>"):=⟨c',oc,vs,tq,rfl,gZ ..,dJ,hv⟩
  have aP:=aV.set (n:=tk) (h':=h') (t':=t) (o':=.table (X.aa.qual++"<lambda>")) ax.at_ hP rfl rfl ⟨IK.1.symm,fun b hb=>(IK.2 b hb).symm⟩ ⟨_,Q8,by
   rw[Array.toList_append];exact TriplesOk_snoc _ _ _ _ hT,fun pos' cv e=>by
   rw[Array.toList_append]at e;rcases vO _ hT e with e|e
   ·exact(hC _ _ e).mono ax.ext
   rw[e];exact fc⟩
  rw[Mt hP]at aP;have cS:=aV.freeze (n:=tk) aP.at_ (cF h' (kla_obj "<lambda>" (X.aa.qual++"<lambda>") params aZ scope dO ((X.G.mg "__name__").getD .none) c' tT)) (bC h') (eO _ rfl);exact h _ _ _ ((ax.trans aP).trans cS) ⟨_,c',tT,gZ ..,fc.mono cS.ext⟩
theorem KI:∀ {G:Gd} {m:Nat} {c:Ctx} {φ:FZ} {s:aG} {σ:St} {ρ:Loc} {a:Addr} {qual:Str} {params:Arguments} {aZ:Expr} {names:List (Str×NameKind)} {more:List (Str×Const)} {dO:List (Str×Addr)} {Q:LV→St→Prop} {ep:EP} (hc:dM (m+1) c) (hA:At φ s σ c G) (hL:ti φ a qual params aZ ⟨.function,names,false,false,more⟩ dO) (dB:∀pm cd ct,bindArgs (kla_fn "<lambda>" qual params aZ ⟨.function,names,false,false,more⟩ dO pm cd ct) ⟨[],[]⟩=pure []) (su:(names.all fun x=>x.2==.free||x.2==.globalImplicit)=true) (dS:∀x z,dO.lookup x=some z→z∈c.pv∧∃cv,s.heap.IsCell z cv∧∀v,ρ x=some v→∃w,cv=some w∧VR φ v w) (zX:∀x y z,dO.lookup x=some z→dO.lookup y=some z→x=y) (h:∀(c':Ctx) (aa:Env),aa.scope.names=names→(∃outer L,c'.bA=aa::outer∧aa.frame=some L)→interactive aa=false→aa.scope.kind=.function→aa.cells=dO→ET ep ⟨G,c',aa,m⟩ ρ σ aZ Q),bw G.M c.A (.call (.ref a) ⟨[],[]⟩) (iC G c s φ Q ⟨false,ep.Q⟩) s:=by
 rintro G m c φ s σ ρ a qual params aZ names more dO Q ep:(_)
 w_up
 refine Lake.ex3 (hL) ?_
 (first|clear hL|skip)
 rintro pm c' tT:(_)
 rintro⟨h1,h2⟩:_
 have y0:c.A.depth<recursionLimit:=by have:=hc.depth;show c.A.depth<1000;exists this
 have no:∀x k,k≠.free→k≠.globalImplicit→(x,k)∉names:=fun x k n1 n2 hm=>by
  have:=all_eq_true.mp su _ hm;rw[Bool.or_eq_true]at this;rcases this with z|z
  ·exact n1 (eq_of_beq z)
  exact n2 (eq_of_beq z)
 refine uA y0 (hA.rep.fz _ _ h1).1 rfl rfl rfl rfl (KH hA.rep h2) ?_
 rw[dB]
 refine ao (aD (wpAny_newFunctionEnv (fun x hx q=>no x.1 x.2 (by rw[q];exact fun z=>by cases z) (by rw[q];exact fun z=>by cases z) hx) (fun x hx=>by cases hx) (fun h₀ iV Ee=>⟨hA.rep.nolimit.fresh _ Ee,?_⟩) rfl))
 have jT:∀b o,s.heap.get? b=some o→h₀.get? b=some o:=fun b o e=>Ee.extBut b o (fun z=>absurd (kq e) (by rw[z];exact Nat.lt_irrefl _)) (fb _ e)
 obtain⟨f1,f2,f3⟩:=hA.fresh (bC s.heap)
 have f6:=hA.keeps (n:=s.toks) jT
 have y9:=iV
 obtain⟨oL,es,mE,xm,Ey,_⟩:=y9
 have xo:Fm oL:=⟨_,_,Ey⟩
 generalize he:newEnv ⟨.function,names,false,false,more⟩ s.heap.objs.size mainGlobals dO (qual++".<locals>.") (some a) (.ref c') none builtinsNs=aa
 have jL:aa.frame=some s.heap.objs.size:=by rw[← he];rfl
 have hk:aa.scope=⟨.function,names,false,false,more⟩:=by rw[← he];rfl
 have Fd:aa.cells=dO:=by rw[← he];rfl
 have um:At φ {s with heap:=h₀,toks:=s.toks} σ (c.enter aa [s.heap.objs.size]) G:=by
  refine⟨f6.rep,fun b hb=>?_,fun ij uW=>?_,f6.gens⟩
  ·rcases eG hb with hb|hb
   ·rw[dE hb];exact⟨f1,f2,oL,xm,fun _=>xo.nf⟩
   exact f6.pv b hb
  rcases eb uW with rfl|uW
  ·exact⟨by rw[hk];exact(fun z=>by cases z),_,oL,jL,ik _ (.head _),xm,xo⟩
  obtain⟨x1,L,o,x2,x3,x4⟩:=f6.bA ij uW;exact⟨x1,L,o,x2,il _ x3,x4⟩
 have fQ:cV aa (c.enter aa [s.heap.objs.size]) ρ φ h₀:=by
  refine⟨by rw[hk],by rw[← he];rfl,by rw[← he];rfl,by rw[← he];exact .head _,⟨_,by rw[← he];exact iV,fun x v e q=>?_⟩,fun b hb fV=>?_,fun x y z e e'=>?_,fun x z e=>?_⟩
  ·have q:aa.scope.names.lookup x=some .local:=q;rw[hk]at q;exact absurd (mem_of_lookup q) (no x .local (fun z=>by cases z) (fun z=>by cases z))
  ·rw[dE hb]at fV;exact f3 fV
  ·rw[Fd]at e e';exact zX x y z e e'
  rw[Fd]at e;obtain⟨h3,cv,h4,h5⟩:=dS x z e;obtain⟨o,ho,hd⟩:=h4;exact⟨il _ h3,cv,⟨o,jT _ _ ho,hd⟩,fun v e1 _=>h5 v e1⟩
 refine yo (uV (n:=m) (own:=[s.heap.objs.size]) (val:=fun v=>v) hc hA jL (.keeps jT) rfl ?_)
 exact bG.go (h (c.enter aa [s.heap.objs.size]) aa (by rw[hk]) ⟨_,_,rfl,jL⟩ (by
  show(aa.scope.kind==.module&&_)=false;rw[hk];rfl) (by rw[hk]) Fd (hc.enter _ _) φ _ um fQ) (fun v s' aH σ' lv S r q=>⟨aH,σ',lv,S.bP,r,q⟩) fun _ _ e=>e.bP
theorem Fl{G:Gd}{m:Nat}{c:Ctx}{φ:FZ}{s:aG}{σ:St}{ρ:Loc}{a:Addr}{qual:Str}{params:Arguments}{aZ:Expr}{names:List (Str×NameKind)}{more:List (Str×Const)}{dO:List (Str×Addr)}{Q:LV→St→Prop}(hc:dM (m+2) c)(hA:At φ s σ c G)
 (hL:ti φ a qual params aZ ⟨.function,names,false,false,more⟩ dO)(dB:∀pm cd ct,bindArgs (kla_fn "<lambda>" qual params aZ ⟨.function,names,false,false,more⟩ dO pm cd ct) ⟨[],[]⟩=pure [])(su:(names.all fun x=>x.2==.free||x.2==.globalImplicit)=true)
 (dS:∀x z,dO.lookup x=some z→z∈c.pv∧∃cv,s.heap.IsCell z cv∧∀v,ρ x=some v→∃w,cv=some w∧VR φ v w)(zX:∀x y z,dO.lookup x=some z→dO.lookup y=some z→x=y)
 {f C:Addr}{fo:Obj}{nm qn exn dn:Str}{ps:Arguments}{dV kV doc pm cd ct:Value}{an:Option Addr}{sn:List (Str×NameKind)}{oE:List (Str×Const)}{p1 p2 p3 p4 p5 p6 p7 p8 p9 zY:Pos}{k1 k2:Nat}
 (hK:G.K.lookup f=some fo)(hd:fo.data=.func ⟨nm,qn,ps,.stmts [.Try [.Expr (.Call (.Name dn p1) [] [] p2) p3] [.ExceptHandler (some (.Name exn p4)) none [.Return (some (.Constant (.bool false) k1 p5)) p6] p7] [] [] p8,.Return (some (.Constant (.bool true) k2 p9)) zY],⟨.function,sn,false,false,oE⟩,mainGlobals,[],dV,kV,doc,pm,an,cd,ct,builtinsNs⟩)(gc:codeIn G.K cd qn=true)
 (Fn:∀(vs:List Value),vs.length=1→bindArgs ⟨nm,qn,ps,.stmts [.Try [.Expr (.Call (.Name dn p1) [] [] p2) p3] [.ExceptHandler (some (.Name exn p4)) none [.Return (some (.Constant (.bool false) k1 p5)) p6] p7] [] [] p8,.Return (some (.Constant (.bool true) k2 p9)) zY],⟨.function,sn,false,false,oE⟩,mainGlobals,[],dV,kV,doc,pm,an,cd,ct,builtinsNs⟩ ⟨vs,[]⟩=pure ([dn].zip vs))
 (eT:(sn.all fun x=>!(x.2==.cell))=true)(BD:(sn.lookup dn==some .local)=true)(Fo:(sn.lookup exn==some .globalImplicit)=true)(hg:G.mg exn=some (.ref C))(hm:gh G.K C=true)(hn:instIn G.K (.ref C) (.type "tuple")=some false)
 (Fp:(exn==("__debug__" : Str))=false)(zZ:(dn==("__debug__" : Str))=false)
 (h:∀(c':Ctx) (aa:Env),aa.scope.names=names→(∃outer L,c'.bA=aa::outer∧aa.frame=some L)→interactive aa=false→aa.scope.kind=.function→aa.cells=dO→ET ⟨false,fun C' σ'=>C'=C∧Q (.bool false) σ'⟩ ⟨G,c',aa,m⟩ ρ σ aZ (fun _ σ'=>Q (.bool true) σ')) :
  bw G.M c.A (.call (.ref f) ⟨[.ref a],[]⟩) (iC G c s φ Q b0) s:=by
 revert hc hA hL dB su dS zX hK hd gc Fn eT BD Fo hg hm hn Fp zZ h
 revert G m c φ s σ ρ a qual params aZ names more dO Q f C fo nm qn exn dn ps dV kV doc pm cd ct an sn oE p1 p2 p3 p4 p5 p6 p7 p8 p9 zY k1 k2
 rintro G m c φ s σ ρ a qual params aZ names more dO Q f C fo nm qn:(_)
 rintro exn dn ps dV kV doc pm cd ct an sn oE p1 p2 p3 p4 p5 p6 p7 p8:(_)
 rintro p9 zY k1:(_)
 rintro k2:(_)
 intro hc hA hL dB su dS zX hK hd gc Fn eT BD Fo hg hm hn Fp zZ h
 refine Ew (names:=[dn]) (az:=[.ref a]) (n:=m+1) (ep:=b0) hc hA (bg.cZ.mpr ⟨rfl,rfl⟩) (hA.rep.K _ _ hK) hd rfl (codeRec_of hA.rep.K gc) (fun hl=>BindsTo.of_eq (Fn _ hl)) rfl (by simp) (fun x hx=>?_) (fun x hx=>?_) rfl rfl rfl (fun L aj yr oo PG=>?_) rfl rfl rfl
 ·have:=all_eq_true.mp eT x hx;simpa using this
 ·rw[dE hx];exact eq_of_beq BD
 generalize M4:callEnv _ L f=aa at yr oo ⊢
 have z0:aa.scope=⟨.function,sn,false,false,oE⟩:=by rw[← M4];rfl
 have zc:aa.frame=some L:=by rw[← M4];rfl
 have hi:interactive aa=false:=by
  show(aa.scope.kind==.module&&_)=false;rw[z0];rfl
 have zW:=hc.enter aa [L]
 let Q1:LF→Loc→St→Prop:=fun lf _ σ'=>(lf=.next∧Q (.bool true) σ')∨(lf=.ret (.bool false)∧Q (.bool false) σ')
 have aZ:TB VR aj aj φ G (c.enter aa [L]) (c.enter aa [L]).pv ⟨false,fun C' σ'=>C'=C∧Q1 (.ret (.bool false)) (fq [dn] [.ref a]) σ'⟩ (eval (.Call (.Name dn p1) [] [] p2) aa) (fun _ ah=>Q1 .next (fq [dn] [.ref a]) ah):=by
  refine yq (bG.go ((yW (X:=⟨G,c.enter aa [L],aa,m+1⟩) (ep:=b0) (Q:=fun v ah=>v=.ref a∧ah=σ) (cu (by rw[z0]) BD) (HB ..) ⟨rfl,rfl⟩ zZ) zW φ aj yr oo) (fun va aO bp ae lv aP cJ iX=>?_) fun _ _ e=>g6 e);obtain⟨e1,e2⟩:=iX;subst e1 e2;have cJ:va=.ref a:=cJ;subst cJ;have IL:=hL.mono aP.ext;have z5:=(aP.at_.rep.fz _ _ IL.choose_spec.choose_spec.choose_spec.1).1;refine lT (P:=fun hp=>FnAt a hp) rfl (fun hp X=>keeps_F hp X) (aD (evalArgs_nil3 ⟨⟨_,_,_,_,z5⟩,dz ?_⟩));have run:=KI (Q:=fun _ σ'=>Q1 .next (fq [dn] [.ref a]) σ') (ep:=⟨false,fun C' σ'=>C'=C∧Q1 (.ret (.bool false)) (fq [dn] [.ref a]) σ'⟩) zW aP.at_ IL dB su (fun x z e=>?_) zX (fun c' ij F1 F2 F3 F4 F5 oj aH s' Lz VT=>TB.mono (h c' ij F1 F2 F3 F4 F5 oj aH s' Lz VT) (fun _ _ q=>.inl ⟨rfl,q⟩) (fun z=>z) fun C' σ' q=>⟨q.1,.inr ⟨rfl,q.2⟩⟩)
  ·exact dR run fun r s' z=>iC.go z (fun v aH σ' lv S' r' h1=>⟨aH,σ',lv,aP.trans S',r',h1⟩) fun e z=>cH.up aP z
  obtain⟨h3,cv,h4,h5⟩:=dS x z e;exact⟨il _ h3,cv,IsCell.bT aP.bT (il _ h3) (IsCell.bT PG h3 h4),fun v q=>let⟨w,h6,h7⟩:=h5 v q;⟨w,h6,h7.mono aP.ext⟩⟩
 refine gI (ki.gg (Bz (X:=⟨G,c.enter aa [L],aa,m+1⟩) (Q:=Q1) (ep:=b0) zW oo aZ hi (cu (by rw[z0]) Fo) hg hm hn ⟨_,L,rfl,zc⟩ rfl Fp) (fun f' aO bp ae cz lf aP fQ cJ bE=>?_))
 rcases bE with hK|hK
 ·obtain⟨rfl,q⟩:=hK;have e:f'=.next:=cJ;subst e;exact ki.go ((wC (En (JN q)):ST b0 ae cz ⟨G,c.enter aa [L],aa,m+1⟩ (fun lf _ σ'=>Q lf.val σ') _) zW bp aO aP.at_ fQ) (fun f bI fU bz qr lf cS wG zb gJ=>⟨fU,bz,qr,lf,aP.trans cS,wG,zb,gJ⟩) fun _ _ e=>e.up aP
 obtain⟨rfl,q⟩:=hK
 obtain⟨w,rfl,rw⟩:=cJ
 exact⟨bp,ae,cz,.ret (.bool false),aP,fQ,⟨w,rfl,rw⟩,q⟩
noncomputable def IM(X:Fx)(ρ:Loc)(σ:St)(e:Expr)(Q:LV→St→Prop)(ep:EP):Prop:=ET ep X ρ σ e Q
theorem TP{fn:Str}{p:Arguments}{b:Expr}{sc:Scope}{q1 q2 q3:Pos}(h:IM X ρ σ (.Call (.Name fn q1) [.Lambda p b sc q2] [] q3) Q ep):ET ep X ρ σ (.Call (.Name fn q1) [.Lambda p b sc q2] [] q3) Q:=h
theorem z7{m:Nat}{fn qual:Str}{params:Arguments}{aZ:Expr}{names Dq:List (Str×NameKind)}{q1 q2 q3:Pos}{c P:Addr}(Fq:m+2≤X.n)
 (F1:X.aa.scope.names=Dq)(F5:X.aa.cells=cells)(M5:rh names cells []=some dO)(yB:X.aa.code=.ref c)(VU:codeHdIn X.G.K c P=true)(hq:X.aa.qual++"<lambda>"=qual)(hP:σ P=some (t,.table qual))(hb:qA X.G)(qB:defaultsOf params X.aa=([],[]))
 (PH:(names.all fun x=>!(x.2==.free)||Dq.lookup x.1==some .cell)=true)(VV:(Dq.lookup fn==some .globalImplicit)=true)(IP:(fn==("__debug__" : Str))=false)
 (dB:∀pm cd ct,bindArgs (kla_fn "<lambda>" qual params aZ ⟨.function,names,false,false,more⟩ dO pm cd ct) ⟨[],[]⟩=pure [])(su:(names.all fun x=>x.2==.free||x.2==.globalImplicit)=true)
 {f:Addr}{nm exn dn:Str}{oE:List (Str×Const)}{p2 p3 p4 p5 p6 p7 p8 p9 zY:Pos}{k1 k2:Nat}(VW:X.G.mg fn=some (.ref f))(VX:keepIn X.G.K (.ref f)=true)
 (hK:X.G.K.lookup f=some fo)(hd:fo.data=.func ⟨nm,qn,ps,.stmts [.Try [.Expr (.Call (.Name dn p1) [] [] p2) p3] [.ExceptHandler (some (.Name exn p4)) none [.Return (some (.Constant (.bool false) k1 p5)) p6] p7] [] [] p8,.Return (some (.Constant (.bool true) k2 p9)) zY],⟨.function,sn,false,false,oE⟩,mainGlobals,[],dV,kV,doc,pm,an,cd,ct,builtinsNs⟩)(gc:codeIn X.G.K cd qn=true)
 (Fn:∀(vs:List Value),vs.length=1→bindArgs ⟨nm,qn,ps,.stmts [.Try [.Expr (.Call (.Name dn p1) [] [] p2) p3] [.ExceptHandler (some (.Name exn p4)) none [.Return (some (.Constant (.bool false) k1 p5)) p6] p7] [] [] p8,.Return (some (.Constant (.bool true) k2 p9)) zY],⟨.function,sn,false,false,oE⟩,mainGlobals,[],dV,kV,doc,pm,an,cd,ct,builtinsNs⟩ ⟨vs,[]⟩=pure ([dn].zip vs))
 (eT:(sn.all fun x=>!(x.2==.cell))=true)(BD:(sn.lookup dn==some .local)=true)(Fo:(sn.lookup exn==some .globalImplicit)=true)(hg:X.G.mg exn=some (.ref C))(hm:gh X.G.K C=true)(hn:instIn X.G.K (.ref C) (.type "tuple")=some false)
 (Fp:(exn==("__debug__" : Str))=false)(zZ:(dn==("__debug__" : Str))=false)
 (h:∀(c':Ctx) (aa:Env),aa.scope.names=names→(∃outer L,c'.bA=aa::outer∧aa.frame=some L)→interactive aa=false→aa.scope.kind=.function→aa.cells=dO→ET ⟨false,fun C' σ'=>C'=C∧Q (.bool false) σ'⟩ ⟨X.G,c',aa,m⟩ ρ σ aZ (fun _ σ'=>Q (.bool true) σ')) :
  IM X ρ σ (.Call (.Name fn q1) [.Lambda params aZ ⟨.function,names,false,false,more⟩ q2] [] q3) Q ep:=fun hc φ s hA hF=>by
 have jX:closureFor ⟨.function,names,false,false,more⟩ X.aa=pure dO:=by
  have:=vL F5 M5;unfold closureFor;simp only[bind_pure];exact this
 have vP:∀x z,dO.lookup x=some z→X.aa.cells.lookup x=some z∧X.aa.kindOf x=some .cell:=fun x z e=>by
  rcases vM M5 e with h|hK
  ·cases h
  obtain⟨h,k⟩:=hK;refine⟨by rw[F5];exact h,?_⟩;have:=all_eq_true.mp PH _ k;show X.aa.scope.names.lookup x=_;rw[F1];simpa using this
 refine yq (bG.go ((rM (X:=X) (ρ:=ρ) (Q:=fun v ah=>v=.ref f∧ah=σ) (ep:=b0) (lv:=.ref f) (cu F1 VV) VW (fun _=>rfl) ⟨rfl,rfl⟩ IP) hc φ s hA hF) (fun va aj aX ah lv ax bD iX=>?_) fun _ _ e=>g6 e)
 obtain⟨e1,e2⟩:=iX
 subst e1 e2
 have bD:va=.ref f:=bD
 subst bD
 have oo:=hF.step ax.ext ax.bT
 refine lT (P:=fun hp=>X.G.K.In hp) rfl (uU VX) (lD (qW (ts:=[]) (aD (HC ax.at_ oo jX yB VU hq hP hb qB fun aO bp a aP hL=>?_))))
 refine ao ⟨aP.at_.rep.K,dz ?_⟩
 have run:=Fl (Q:=Q) (ρ:=ρ) (hc.mono Fq) aP.at_ hL dB su (fun x z e=>?_) (fun x y z e e'=>hF.inj x y z (vP x z e).1 (vP y z e').1) hK hd gc Fn eT BD Fo hg hm hn Fp zZ h
 ·exact dR run fun r s' z=>iC.go z (fun v aH σ' lv S' r' h1=>⟨aH,σ',lv,(ax.trans aP).trans S',r',h1⟩) fun e z=>g6 z
 obtain⟨e1,e2⟩:=vP x z e
 obtain⟨h1,cv,h2,h3⟩:=oo.cl x z e1
 exact⟨h1,cv,IsCell.bT aP.bT h1 h2,fun v q=>let⟨w,h4,h5⟩:=h3 v q (.inl e2);⟨w,h4,h5.mono aP.ext⟩⟩
theorem UN(h:(sn.lookup x==some .local)=false)(hv:ρ x=some v):qz sn ρ x=some v:=by
 unfold qz
 rw[h];exact hv
theorem CallT.Zn{n:Nat}{f:Addr}{nm:Str}
 (hK:G.K.lookup f=some fo)(hd:fo.data=.func ⟨nm,qn,ps,.stmts aZ,⟨.function,sn,false,false,more⟩,mainGlobals,[],dV,kV,doc,pm,an,cd,ct,builtinsNs⟩)(gc:codeIn G.K cd qn=true)
 (dB:∀(vs:List Value),vs.length=az.length→bindArgs ⟨nm,qn,ps,.stmts aZ,⟨.function,sn,false,false,more⟩,mainGlobals,[],dV,kV,doc,pm,an,cd,ct,builtinsNs⟩ ⟨vs,[]⟩=pure (names.zip vs))(hlen:names.length=az.length)(fB:names.Nodup)
 (ir:(names.all fun y=>sn.lookup y==some .local||sn.lookup y==some .cell)=true)(rR:((cellsFrom 0 sn []).map (·.1)).Nodup)
 (h:∀(c:Ctx) (aa:Env) (L:Addr),aa.scope.names=sn→(∃outer L,c.bA=aa::outer∧aa.frame=some L)→interactive aa=false→aa.scope.kind=.function→aa.cells=cellsFrom (L+1) sn []→c.own=L::(cellsFrom (L+1) sn []).map (·.2)→aa.code=cd→aa.qual=qn++".<locals>."→
   ST ep σ (fq names az) ⟨G,c,aa,n⟩ (fun lf _ σ'=>Q lf.val σ') (execs aZ aa)):CallT (n+1) ⟨false,ep.Q⟩ (.ref f) G σ Q az:=
 CallT.QE hK hd rfl gc dB hlen fB ir rR rfl rfl rfl (fun c L=>h _ _ L rfl ⟨_,L,rfl,rfl⟩ rfl rfl rfl rfl rfl rfl) rfl rfl rfl
instance:Nonempty OpenRow:=⟨PySem.Challenge.rw_tn0030_01.row⟩
instance:Nonempty DefRec:=⟨⟨"",⟨[],[],none,[],[],none,[]⟩,[],default,default⟩⟩
theorem Dr:∀ {aq:Program} {w:World} {t:Sem Fin} {s:aG} {R:Result→aG→Prop} (hz:s.asleep) (h:wpAny (model aq w) callerA s (fun e s'=>R (.error e) s'∧AllBare s'.gens) t (fun fin s'=>∃f,fin=.done f∧R (.ok f) s'∧AllBare s'.gens)),∃n r s' bQ,PySem.runN (denote table) aq w n s ⟨t,.builtin "claim.caller" {},default,[]⟩=.halted (outcomeOf r) s'∧
   schedN (denote table) aq w n (.single s ⟨t,.builtin "claim.caller" {},default,[]⟩)=.halted (outcomeOf r) s'∧s'.forget=bQ.forget∧R r bQ:=by
 rintro aq w t s R:(_)
 w_up
 have here:=h ⟨.builtin "claim.caller" {},none,none,[],none⟩ default caller_in (by decide +kernel) (fun x hx=>nomatch hx)
 obtain⟨n,r,aj,aO,hs,hn,z5,hR⟩:=wp_halts_full (M:=model aq w) (R:=R) hz (Sem.wp_mono _ _ t (fun fin p' s' k=>by
  refine rA fun nG=>?_;obtain⟨f,rfl,k1,k2⟩:=k;refine nG ?_;exact⟨k1,leftWithCleanup_false_of_bare k2⟩) (fun e p' s' k=>⟨k.1,leftWithCleanup_false_of_bare k.2⟩) default s here)
 exact⟨n,r,aO,aj,hn,hs,z5,hR⟩
class HD (T:outParam Prop):Prop where
 h:T
noncomputable def TQ{T:Prop}(_:HD T)(P:Prop):Prop:=P
noncomputable def PI(K:Params→Frag)(q:Program)(r:RowW)(n:Str):Prop:=
 ∀(w:World) (s₀ aj:aG) (mg mb:Str→Option Value) (loose:List Str) (XP:(Str→Option Value)→Heap→Prop),Ground q loose r.records XP w s₀ mg mb aj.heap→(K w.params).In aj.heap→aj.heap.get? 629=some (tabObj #[])→aj.heap.get? 622=some (tabObj #[])→
  ∀a:Addr,mg n=some (.ref a)→aj.gens=#[]→
  ∀(az:List WData) (au:List Value) (as:List Addr),r.claim.pre az=true→WData.layableAll az=true→ReadsAllW r.records (classAt s₀.heap) aj.heap au az as→WellAll w.params aj.heap au az→(∀a∈as,(a==sysModules)=false)→
   wpAny (model r.prog w) callerA aj (fun e s'=>GoodWG r.claim (classAt s₀.heap) (ExcName.means s₀.heap) az aj (.error e) s') (PySem.call (.ref a) au) (fun v s'=>GoodWG r.claim (classAt s₀.heap) (ExcName.means s₀.heap) az aj (.ok (.ret v)) s')
noncomputable abbrev IQ(q:Program)(loose:List Str)(XP:(Str→Option Value)→Heap→Prop)(YP:World→Heap→Prop)(r:RowW)(d:DefRec)(vQ:List (Str×Expr)):Prop:=
 ∀(w:World) (s₀ aj:aG) (mg mb:Str→Option Value),Ground q loose r.records XP w s₀ mg mb aj.heap→YP w aj.heap→∀(a:Addr) (o:Obj) (pm cd doc dV kV:Value),aj.heap.get? a=some o→
  o.data=.func {docDef d.name d.params d.body d.scope pm cd doc with defaults:=dV,kwdefaults:=kV}→aj.heap.CodeRec cd d.name→Dflts mg aj.heap d.params vQ dV kV→mg d.name=some (.ref a)→aj.gens=#[]→
  ∀(az:List WData) (au:List Value) (as:List Addr),r.claim.pre az=true→WData.layableAll az=true→ReadsAllW r.records (classAt s₀.heap) aj.heap au az as→WellAll w.params aj.heap au az→(∀a∈as,(a==sysModules)=false)→
   wpAny (model r.prog w) callerA aj (fun e s'=>GoodWG r.claim (classAt s₀.heap) (ExcName.means s₀.heap) az aj (.error e) s') (PySem.call (.ref a) au) (fun v s'=>GoodWG r.claim (classAt s₀.heap) (ExcName.means s₀.heap) az aj (.ok (.ret v)) s')
noncomputable def Ds(r:OpenRow)(s aj:aG)(az:List WData)(vs:List Value)(res:Result)(s':aG):Prop:=r.toRowW.claim.Ends s az vs aj res s'∧s'.os=s.os∧
    (r.writes=true→namesKept r.prog r.keeps s.heap s'.heap∧∀x∈r.records,∀a,classAt s.heap x.1=some a→recordClass s'.heap a x.1 (x.2.map (·.1))=true)
inductive CE(r:OpenRow)(w:World)(s:aG)(az:List WData)(ord:List DictEntry→List DictEntry):Prop
 |mk (vs:List Value) (aj:aG) (k:Nat) (res:Result) (aO bI:aG) (h1:layAllW r.toRowW.claim.records (classAt s.heap) w.params ord az s=some (vs,aj))
  (h2:schedN (denote table) r.prog w k (.single aj (callStub r.name vs))=.halted (outcomeOf res) aO) (h3:aO.forget=bI.forget) (h4:Ds r s aj az vs res bI) (h5:aO.heap.life=s.heap.life)
theorem CE.go{r:OpenRow}{w:World}{s:aG}{F:Addr→Prop}(hg:s.gens=#[])(h:∀az,r.toRowW.claim.pre az=true→WData.layableAll az=true→∀ord:List DictEntry→List DictEntry,(∀l,(ord l).Perm l)→CE r w s az ord) :
  r.toRowW.claim.CallFrom (callStub r.name) w F (r.writes=false) (fun h'=>r.writes=true→namesKept r.toRowW.claim.prog r.keeps s.heap h'∧∀x∈r.toRowW.claim.records,∀a,classAt s.heap x.1=some a→recordClass h' a x.1 (x.2.map (·.1))=true) s:=by
 revert hg h
 revert r w s F
 rintro r w s:(_)
 rintro F:(_)
 intro hg h
 rintro az:(_)
 intro qC wV
 rintro ord:(_)
 intro Dt
 refine(h az qC wV ord Dt).rec ?_
 rintro vs aj k res aO:(_)
 rintro bI:(_)
 intro h1 h2 z5 he h5
 have F:=Shared.forget_eq z5
 have eh:=F.1
 have eo:=F.2.2.2.1
 obtain⟨fP,pG,IS⟩:=he
 have fP:=fP.congr eh
 rw[← eh]at IS
 rw[← eo]at pG
 refine⟨vs,aj,h1,k,_,aO,h2,?_,(fun _ i x hx=>by rw[hg]at hx;simp at hx),IS,by rw[h5],Shared.rest_eq pG⟩
 rcases fP with hK|hK
 ·refine rA fun nG=>?_;obtain⟨v,rfl,d1,d2,d3,d4,d5⟩:=hK;refine nG ?_;exact .inl ⟨v,rfl,d1,d2,d3,fun b o y _=>d4 b o y,d5⟩
 refine rA fun nG=>?_
 obtain⟨e,ob,cls,rfl,d1,d2,d3,d4,d5⟩:=hK
 refine nG ?_
 exact .inr ⟨e,ob,cls,rfl,d1,d2,d3,d4,fun b o y _=>d5 b o y⟩
theorem KJ:∀ {r:OpenRow} {q:Program} {loose:List Str} {XP:(Str→Option Value)→Heap→Prop} {YP:World→Heap→Prop} {d:DefRec} {vQ:List (Str×Expr)} {w:World} {s₀ s:aG} (M6:∀h h',YP w h→(∀b o,h.get? b=some o→h'.get? b=some o)→YP w h') (M7:∀mg h h',XP mg h→(∀b o,h.get? b=some o→h'.get? b=some o)→XP mg h') (qB:defOf q r.name=some (d,vQ)) (M8:(!r.writes||r.records.isEmpty)=true) (Q9:TopRan r.prog w s₀ s) (hz:s.asleep) (none_:s.gens=#[]) (hg:s.heap.isNs mainGlobals=true) (G:Ground q loose r.records XP w s (s.heap.nsMap mainGlobals) (s.heap.nsMap builtinsNs) s.heap) (y:YP w s.heap) (Du:r.toRowW.claim.same=none) (M9:r.toRowW.claim.within=[]) (hi:∀a b,r.toRowW.claim.ident a b=true) (call:IQ q loose XP YP r.toRowW d vQ) (az:List WData) (qC:r.toRowW.claim.pre az=true) (wV:WData.layableAll az=true) (ord:List DictEntry→List DictEntry) (Dt:∀l,(ord l).Perm l),CE r w s az ord:=by
 rintro r q loose XP YP d vQ w s₀:(_)
 rintro s:(_)
 w_up
 refine rA fun nG=>?_
 obtain⟨⟨vs,aj⟩,vR⟩:=Option.isSome_iff_exists.mp (layAllW_isSome (P:=w.params) (ord:=ord) G.has az r.args s (pre_splitW qC).1)
 have keeps:=layAllW_keeps _ _ _ vR
 have aW:=layAllW_rest _ _ _ vR
 obtain⟨as,Na,hold⟩:=reads_layAllW Dt _ _ _ vR wV aj.heap (fun _ _ e=>e)
 have L:Laid r.records w s aj az vs as:=⟨⟨ord,Dt,vR⟩,Na,hold.1,hold.2,keeps,aW.1.trans none_,aW.2.2.1⟩
 have HE:=G.keeps M7 keeps
 obtain⟨a,o,pm,cd,doc,dV,kV,h1,h2,h3,h4,h5⟩:=HE.fn qB
 refine nG ?_
 have nm:=defOf_name qB
 have run:=call w s aj _ _ HE (M6 _ _ y keeps) a o pm cd doc dV kV h2 h3 h4 h5 (nm▸h1) L.gens az vs as qC wV L.reads L.well (L.low G.low)
 have last:∀res s',GoodWG r.toRowW.claim (classAt s.heap) (ExcName.means s.heap) az aj res s'→(r.toRowW.claim.Ends s az vs aj res s'∧s'.os=s.os∧
   (r.writes=true→namesKept r.prog r.keeps s.heap s'.heap∧∀x∈r.records,∀a,classAt s.heap x.1=some a→recordClass s'.heap a x.1 (x.2.map (·.1))=true))∧AllBare s'.gens:=fun res s' g=>by
  have z:=g.laid (c:=r.toRowW.claim) Du M9 hi L;exact⟨⟨z.1,z.2.1,fun q=>⟨namesKept_of Q9 hg r.keeps keeps g.2.1.old,noTable M8 q⟩⟩,z.2.2⟩
 have tree:wpAny (model r.prog w) callerA aj (fun e s'=>(Ds r s aj az vs (.error e) s')∧AllBare s'.gens) (do match ← nsGet mainNs r.name with
   |some f=>do ret (← PySem.call f vs)
   |none=>unsupported "claim.caller:no-such-global") (fun fin s'=>∃f,fin=.done f∧(Ds r s aj az vs (.ok f) s')∧AllBare s'.gens):=by
  refine leaf (wpAny_nsGet HE.T.g ?_);rw[h1];exact seq (aL run (fun v s' g=>last _ _ g) fun e s' g=>last _ _ g) fun v s' g=>ao ⟨_,rfl,g⟩
 refine rA fun nG=>?_
 obtain⟨k,res,aO,bI,TR,Nb,z5,fP,pG,IS⟩:=Dr (R:=fun res s'=>Ds r s aj az vs res s') (Shared.asleep_of_life aW.2.2.2 hz) tree
 refine nG ?_
 exact⟨vs,aj,k,res,aO,bI,vR,Nb,z5,⟨fP,pG,IS⟩,(runN_life _ _ _ TR).trans aW.2.2.2⟩
theorem PySem.W.holds_open{r:OpenRow}{q:Program}{loose:List Str}{Xt:aG→Bool}{Yf:aG→α}{Ya:World→α}{YP:World→Heap→Prop}{d:DefRec}{vQ:List (Str×Expr)}{N:Nat}
 (left:LeftO r.prog q loose Xt Yf Ya N)(hY:∀w s,Yf s=Ya w→YP w s.heap)(M6:∀w h h',YP w h→(∀b o,h.get? b=some o→h'.get? b=some o)→YP w h')
 (hX:∀s,Xt s=true→XP (s.heap.nsMap mainGlobals) s.heap)(M7:∀mg h h',XP mg h→(∀b o,h.get? b=some o→h'.get? b=some o)→XP mg h')
 (qB:defOf q r.name=some (d,vQ))(hp:r.prog.theDef r.name=some (d.params,d.body,d.scope))(hk:kwWritten? d.params.kwonlyargs d.params.kw_defaults=some vQ)(VY:∀s,Xt s=true→RecFacts r.records s.heap)(M8:(!r.writes||r.records.isEmpty)=true)
 (k1:r.wellSaid=true)(ok:(chainsOk q&&opensWell r.prog&&(frees r.toRowW&&r.within.isEmpty))=true)(hb:r.prog.bare)(hw:r.toRowW.promised)
 {T:Prop}[wk:HD T](call:TQ wk (IQ q loose XP YP r.toRowW d vQ)):r.Holds:=by
 simp only[jA]at ok
 refine rA fun nG=>?_
 obtain⟨⟨VZ,ho⟩,jL,zw⟩:=ok
 obtain⟨Du,hu,ha,V0,hm⟩:=frees_parts jL
 refine nG ?_
 have hi:=ident_freeW hu ha V0
 have M9:r.toRowW.claim.within=[]:=List.isEmpty_iff.mp zw
 have behind:=fun w=>left.behind (XP:=fun mg h=>XP mg h∧RecFacts r.records h) (fun s hs=>⟨hX s hs,VY s hs⟩) VZ w
 refine⟨k1,hw,⟨hb,ho,by show r.makers.map _=[];rw[hm];rfl⟩,hw.witness,fun w=>⟨(behind w).1,fun s' dF=>?_⟩⟩
 refine rA fun nG=>?_
 obtain⟨s₀,hf,Nc,s,hT,hz,qD,hg,pT,y⟩:=(behind w).2 s' dF
 refine nG ?_
 have G0:Ground q loose [] XP w s (s.heap.nsMap mainGlobals) (s.heap.nsMap builtinsNs) s.heap:=⟨pT.T,pT.B,pT.D,pT.TE,pT.TD,pT.W,pT.X.1,pT.cls,pT.has,pT.apart,pT.once,pT.K⟩
 have RF:=pT.X.2
 have none_:s.gens=#[]:=Array.eq_empty_of_size_eq_zero (beq_iff_eq.mp qD)
 have G:Ground q loose r.records XP w s (s.heap.nsMap mainGlobals) (s.heap.nsMap builtinsNs) s.heap:=RF.ground G0
 have Q9:=hT
 refine⟨s₀,hf,Nc,s,hT,fun n hn=>?_,RF.1,RF.2.1,CE.go none_ (KJ (M6 w) M7 qB M8 hT hz none_ hg G (hY w s y) Du M9 hi call)⟩
 have:n=r.name:=by split at hn<;>simp_all
 subst this
 exact pinned_of_view hg G0 qB hp hk
end Lake
end
section
set_option maxHeartbeats 0
section
local macro_rules |`(command| lay_the_boot)=>return Jm.dm "heap_1_ 39,1 950,1|o_1_ 53,1 55,1 57,9 67,4 72,11 86,1 88,5 94,7 104,1 106,5 112,7 122,1 124,5 130,7 140,1 142,5 148,3 152,11 164,4 169,6 176,5 184,1 186,4 191,4 196,6 203,6 210,6 217,6 224,6 231,6 238,6 245,6 252,6 259,6 266,6 273,6 280,12 294,4 299,4 304,6 311,6 318,6 325,6 332,6 339,6 346,6 353,6 360,6 367,6 374,5 386,1 390,1 392,4 397,3 401,6 408,6 415,6 422,6 429,6 436,6 443,6 450,6 457,6 464,6 471,6 478,12 493,1 495,4 500,3 504,6 511,6 518,6 525,6 532,6 539,6 546,6 553,6 560,6 567,6 574,6 581,6 588,6 595,4 600,12 614,4 619,3 623,6 630,6 637,6 644,6 651,6 658,6 665,6 672,6 679,6 686,6 693,5 705,1 709,1 711,4 716,3 720,6 727,6 734,6 741,6 748,6 755,6 762,6 769,6 776,6 783,6 790,6 797,12 812,1 814,1 816,6 823,6 830,6 837,4 842,6 849,6 856,4 861,6 868,6 875,4 880,6 887,5 895,1 897,1 899,6 906,6 913,4 918,6 925,4 930,4 935,4 940,4 945,3|sts_1_ 52,1 139,1 183,1 389,1 492,1 708,1 811,1 894,1|tree_1_ 83,1 101,1 119,1 137,1 181,1 292,1 379,1 387,1 490,1 612,1 698,1 706,1 809,1 892,1 948,1|view_1_ 40,1"
lay_the_boot
end
namespace Lake
set_option Elab.async true in
theorem hd:True:=by
 have:∃T:Prop,(T→PySem.Challenge.rw_tn0030_01.Holds):=by
  apply Exists.intro
  as_aux_lemma =>
   intro walk;have wk:HD _:=⟨walk⟩
   w_on
   o_law
   k_head
   case hw=>w_witness2
   exact fun w s₀ aj mg mb Gr Y a _ _ _ _ _ _ _ _ _ _ Fs qD=>(show PI hd.heap_1_39 hd.view_1_40 PySem.Challenge.rw_tn0030_01.row.toRowW "law" from wk.h) w s₀ aj mg mb _ _ Gr Y.1 (Y.2 629 (by simp)) (Y.2 622 (by simp)) a Fs qD
 trivial
end Lake
end
section
namespace Lake
theorem ls{α:Type}{n:Nat}{l:List α}(hl:l.length=n+1):∃a r,l=a::r∧r.length=n:=by
 cases l with
 |nil=>cases hl
 |cons a r=>exact⟨a,r,rfl,qh hl⟩
structure Pr(G:Gd):Prop where
 K:G.K=hd.heap_1_39 G.P
 mg:∀x v,nsIn (hd.heap_1_39 G.P) mainGlobals x=some (some v)→G.mg x=some v
 V1:∀x,nsIn (hd.heap_1_39 G.P) mainGlobals x=some none→G.mg x=none
noncomputable def z9(K:Frag)(C:Addr):Bool:=plainGet K C ""&&hasDictIn K C&&findIn K (.ref C) "__setattr__"==some (some (.builtin "object.__setattr__"))&&plainOver K C
theorem HF{K:Frag}(h:z9 K C=true):uS K C:=by
 unfold z9 at h
 simp only[jA,beq_iff_eq]at h
 exact⟨h.1.1.1,h.1.1.2,h.1.2,h.2⟩
noncomputable def kQ:List Addr:=[218,316,433,531]
noncomputable def tj:Addr→List Str
 |218=>["cache","start","size","places","most","each","numbers","noted","calls","commits"]
 |316=>["number","data","holders","pins"]
 |433=>["disk","most","size","row","by_number","hits","reads","writes"]
 |531=>["blocks","size","kept","latest","unflushed","writes","flushes","last","last_flush","is_dead"]
 |_=>[]
noncomputable def qE:Addr→List (Str×Addr)
 |218=>[("__init__",131),("is_own",138),("has_room",145),("left",152),("begin",159),("write",166),("end",173),("commit",180),("fill_log",187),("write_head",194),("install",201),("pending",208),("recover",215)]
 |316=>[("__init__",236),("is_free",243),("octets",250),("need_part",257),("take",264),("put",271),("fill",278)]
 |433=>[("__init__",334),("need_block",341),("need_held",348),("get",355),("make_room",362),("release",369),("pin",376),("unpin",383),("write",390),("flush",397),("peek",404),("poke",411),("free_count",423)]
 |531=>[("__init__",451),("need_power",458),("need_block",465),("read",472),("write",479),("fail",486),("flush",493),("stop_after",500),("stop_at_flush",507),("after",514)]
 |_=>[]
theorem KL(P:Params):(kQ.all fun C=>z9 (hd.heap_1_39 P) C)=true:=by k_in
theorem HG(P:Params):(kQ.all fun C=>(tj C).all fun x=>findIn (hd.heap_1_39 P) (.ref C) x==some none)=true:=by k_in
theorem Ft(P:Params):(kQ.all fun C=>(qE C).all fun x=>findIn (hd.heap_1_39 P) (.ref C) x.1==some (some (.ref x.2))&&isFn (hd.heap_1_39 P) (.ref x.2)&&keepIn (hd.heap_1_39 P) (.ref x.2))=true:=by k_in
noncomputable def qF:List (Str×Addr):=[("BoardError",39),("BadArgument",52),("BadDisk",64),("NoRoom",76),("Crash",95),("packed_head",102),("numbers_of",109),("read_head",116),("Journal",218),("Buffer",316),("Cache",433),("Disk",531),("octets_in",542),
 ("_law_box",549),("_law_take",556),("_law_world",561),("_law_opened",568),("_law_disk",575),("_law_final",580),("_law_rows",587),("_law_deed",594),("_law_telling",599),("_law_cut",606),("_law_is_let",613),("_law_is_ended",620),("_law_done",627),
 ("_law_open_right",632),("_law_run",639),("_law_log",644),("_law_same",649),("_law_recovered",654),("_law_group",659)]
noncomputable def wW:List (Str×Int):=[("NUMBER",4),("MOST_EACH",10),("SPARE",4)]
noncomputable def yC:List (Str×Value):=[("len",.builtin "len"),("list",.type "list"),("bytes",.type "bytes"),("bytearray",.type "bytearray"),("range",.type "range"),("enumerate",.type "enumerate"),("isinstance",.builtin "isinstance"),("int",.type "int"),("min",.builtin "min"),("max",.builtin "max"),("abs",.builtin "abs"),("sum",.builtin "sum"),("sorted",.builtin "sorted"),("dict",.type "dict"),("reversed",.type "reversed"),("ValueError",.type "ValueError"),("TypeError",.type "TypeError")]
theorem Nd:(yC.all fun x=>bootBuiltins x.1==some x.2)=true:=by decide +kernel
noncomputable def lY:List Str:=["len","list","bytes","bytearray","range","enumerate","isinstance","int","min","max","abs","sum","sorted","dict","reversed","ValueError","TypeError"]
noncomputable def CG:Option (Option Value)→Int→Bool
 |some (some (.int m _)),n=>m==n
 |_,_=>false
theorem Fu(P:Params):(qF.all fun x=>nsIn (hd.heap_1_39 P) mainGlobals x.1==some (some (.ref x.2))&&keepIn (hd.heap_1_39 P) (.ref x.2))=true:=by k_in
theorem HH(P:Params):(wW.all fun x=>CG (nsIn (hd.heap_1_39 P) mainGlobals x.1) x.2)=true:=by k_in
theorem Aa(P:Params):(lY.all fun x=>nsIn (hd.heap_1_39 P) mainGlobals x==some none)=true:=by k_in
theorem Pr.cls(pr:Pr G)(h:kQ.contains C=true):uS G.K C:=by
 rw[pr.K]
 exact HF (all_eq_true.mp (KL G.P) C (contains_iff_mem.mp h))
theorem Pr.fld(pr:Pr G)(h:kQ.contains C=true)(hx:(tj C).contains x=true):findIn G.K (.ref C) x=some none:=by
 rw[pr.K]
 exact eq_of_beq (all_eq_true.mp (all_eq_true.mp (HG G.P) C (contains_iff_mem.mp h)) x (contains_iff_mem.mp hx))
theorem Pr.TU(pr:Pr G){f:Addr}(h:kQ.contains C=true)(hx:(qE C).contains (x,f)=true):findIn G.K (.ref C) x=some (some (.ref f))∧isFn G.K (.ref f)=true∧keepIn G.K (.ref f)=true:=by
 rw[pr.K]
 have:=all_eq_true.mp (all_eq_true.mp (Ft G.P) C (contains_iff_mem.mp h)) (x,f) (contains_iff_mem.mp hx)
 rw[jA,jA]at this
 exact⟨eq_of_beq this.1.1,this.1.2,this.2⟩
noncomputable def Fv(v:LV):Bool:=@LV.casesOn (fun _=>Bool) v true (fun _=>true) (fun _=>true) (fun _=>true) (fun _=>true) (fun _=>true) (fun _=>false) (fun _=>true) (fun _=>true) (fun _=>true) (fun _=>true) (fun _ _=>true)
section
variable {X:Fx}{ρ:Loc}{σ:St}{Q:LV→St→Prop}{QU:St→Prop}{ep:EP}{a C dx:Addr}{t:Tag}{fs:List (Str×LV)}{name:Str}
theorem gF{ex:Bool}{C:Addr}{ep:EP}{a:Addr}{t:Tag}{X:Fx}{dx:Addr}{fs:List (Str×LV)}{σ:St}(pr:Pr X.G)(e:σ a=some (t,.inst C dx fs))(hC:kQ.contains C=true){name:Str}{v:LV}(hn:(tj C).contains name=true)(hf:ql fs name=some v)(hv:Fv v=true){Q:LV→St→Prop}(h:Q v σ):O1 X (fun o=>getAttr o name ex) (.ref a) σ Q ep:=
 GS e (pr.cls hC) (pr.fld hC hn) hf (fun c z=>by subst z;cases hv) h
theorem sF{C:Addr}{ep:EP}{X:Fx}{t:Tag}{a dx:Addr}(pr:Pr X.G){v:LV}{σ:St}{QU:St→Prop}{fs:List (Str×LV)}{name:Str}(e:σ a=some (t,.inst C dx fs))(hC:kQ.contains C=true)(hn:(tj C).contains name=true)(hz:fs.length≤900)(h:QU (upd σ a (t,.inst C dx (wA fs name v)))):OU X (fun o v=>setAttr o name v) (.ref a) v σ QU ep:=
 AX e (pr.cls hC) (pr.fld hC hn) hz h
theorem mF{C:Addr}{name:Str}{f a:Addr}{t:Tag}{X:Fx}{σ:St}{dx:Addr}{fs:List (Str×LV)}(pr:Pr X.G){K:Value→Prop}(e:σ a=some (t,.inst C dx fs))(hC:kQ.contains C=true)(hn:(qE C).lookup name=some f)(hl:ql fs name=none)(h:K (.ref f)):iR X (.ref a) name σ K:=by
 have hm:(qE C).contains (name,f)=true:=contains_iff_mem.mpr (mem_of_lookup hn)
 obtain⟨h1,h2,h3⟩:=pr.TU hC hm
 exact Em e (pr.cls hC) h1 h2 h3 hl h
theorem CallT.mono{n:Nat}{mE:EP}(h:CallT n ep f G σ Q az)(hq:∀v σ',Q v σ'→Q' v σ')(hf:ep.fr=true→mE.fr=true)(he:∀C σ',ep.Q C σ'→mE.Q C σ'):CallT n mE f G σ Q' az:=fun c φ s vs hc hA hv =>
 dR (h c φ s vs hc hA hv) fun r s' z=>iC.go z (fun v aH σ' lv S hr q=>⟨aH,σ',lv,S,hr,hq _ _ q⟩) fun e z=>cH.mono z (fun _ h=>h) hf he
theorem aT{n:Nat}{ep:EP}{f:Value}{X:Fx}{az:List LV}{σ:St}{Q:LV→St→Prop}(h:CallT n b0 f X.G σ Q az)(k:Nat.ble n X.n=true):bV σ X ep Q az f:=.of (h.mono (fun _ _ q=>q) (fun z=>by cases z) fun _ _ z=>z.elim) (jy k)
theorem fu{n:Nat}{X:Fx}{ep:EP}{σ:St}{Q:LV→St→Prop}(h:CallT n ⟨false,ep.Q⟩ f X.G σ Q az)(k:Nat.ble n X.n=true):bV σ X ep Q az f:=.of (h.mono (fun _ _ q=>q) (fun z=>by cases z) fun _ _ z=>z) (jy k)
theorem Pr.glob(pr:Pr G){a:Addr}(h:qF.lookup x=some a):G.mg x=some (.ref a)∧keepIn G.K (.ref a)=true:=by
 have:=all_eq_true.mp (Fu G.P) (x,a) (mem_of_lookup h)
 rw[jA]at this
 refine⟨pr.mg _ _ (eq_of_beq this.1),?_⟩
 rw[pr.K];exact this.2
theorem Pr.int{G:Gd}(pr:Pr G){x:Str}{n:Int}(h:wW.lookup x=some n):∃t,G.mg x=some (.int n t):=by
 revert pr h
 revert G x n
 rintro G x n:(_)
 intro pr h
 have:=all_eq_true.mp (HH G.P) (x,n) (mem_of_lookup h)
 cases e:nsIn (hd.heap_1_39 G.P) mainGlobals x with
 |none=>rw[e]at this;cases this
 |some o =>
 cases o with
 |none=>rw[e]at this;cases this
 |some v =>
 rw[e]at this
 cases v with
 |int m t =>
  have:m=n:=eq_of_beq this;subst this;exact⟨_,pr.mg _ _ e⟩
 |_=>cases this
theorem Pr.qG(pr:Pr G)(h:lY.contains x=true):G.mg x=none:=
 pr.V1 _ (eq_of_beq (all_eq_true.mp (Aa G.P) x (contains_iff_mem.mp h)))
theorem IU(pr:Pr X.G){g:Addr}{ai:Pos}(eT:X.aa.scope.names=sn)(hk:(sn.lookup x==some .globalImplicit)=true)(hx:qF.lookup x=some g)(hd:(x==("__debug__" : Str))=false)(h:Q (.ref g) σ):ET ep X ρ σ (.Name x ai) Q:=
 rM (lv:=.ref g) (cu eT hk) (pr.glob hx).1 (fun _=>rfl) h hd
theorem YW{ep:EP}{X:Fx}{ρ:Loc}{σ:St}(pr:Pr X.G)(eT:X.aa.scope.names=sn)(hk:(sn.lookup x==some .globalImplicit)=true)(hx:wW.lookup x=some n)(hd:(x==("__debug__" : Str))=false){Q:LV→St→Prop}{ai:Pos}(h:Q (.int n) σ):ET ep X ρ σ (.Name x ai) Q:=by
 obtain⟨t,e⟩:=pr.int hx
 exact rM (lv:=.int n) (cu eT hk) e (fun _=>⟨t,rfl⟩) h hd
theorem V2{ep:EP}{sn:List (Str×NameKind)}{X:Fx}{x:Str}{g:Addr}{ρ:Loc}{σ:St}(pr:Pr X.G)(eT:X.aa.scope.names=sn)(hk:(sn.lookup x==some .globalImplicit)=true)(hx:qF.lookup x=some g)(hd:(x==("__debug__" : Str))=false){Q:LV→St→Prop}{az:List Expr}{np ai:Pos}(hp:dg az=true)(he:eval (.Call (.Name x np) az [] ai) X.aa=(do callWith ai (← eval (.Name x np) X.aa) [] (backTo ai (starEach az X.aa)) (backToKw ai (keywordEach [] X.aa))))(h:EA X ρ az σ (sq ep (.ref g) X Q) ep):ET ep X ρ σ (.Call (.Name x np) az [] ai) Q:=
 ID hp he (IU pr eT hk hx hd (MI (uU (pr.glob hx).2) h))
theorem IV{v:Value}(h:yC.lookup x=some v):bootBuiltins x=some v:=eq_of_beq (all_eq_true.mp Nd (x,v) (mem_of_lookup h))
noncomputable def BE:Value→Bool
 |.builtin _=>true
 |.type _=>true
 |_=>false
theorem Dv{v:Value}(h:BE v=true):jS G v:=by
 cases v with
 |builtin id=>exact nr
 |type id=>exact oh
 |_=>cases h
theorem V3{ep:EP}{x:Str}{v:Value}{sn:List (Str×NameKind)}{X:Fx}{ρ:Loc}(pr:Pr X.G)(eT:X.aa.scope.names=sn)(hk:(sn.lookup x==some .globalImplicit)=true)(hx:lY.contains x=true)(hb:yC.lookup x=some v)(hv:BE v=true)(hn:(x==("__name__" : Str))=false)(hd:(x==("__debug__" : Str))=false){σ:St}{Q:LV→St→Prop}{az:List Expr}{np ai:Pos}(hp:dg az=true)(he:eval (.Call (.Name x np) az [] ai) X.aa=(do callWith ai (← eval (.Name x np) X.aa) [] (backTo ai (starEach az X.aa)) (backToKw ai (keywordEach [] X.aa))))(h:EA X ρ az σ (sq ep v X Q) ep):ET ep X ρ σ (.Call (.Name x np) az [] ai) Q:=
 ID hp he (ji (cu eT hk) (pr.qG hx) (IV hb) (by simpa using hn) (Px (Dv hv) h) hd)
theorem V4(pr:Pr X.G){v:Value}{ai:Pos}(eT:X.aa.scope.names=sn)(hk:(sn.lookup x==some .globalImplicit)=true)(hx:lY.contains x=true)(hb:yC.lookup x=some v)(hn:(x==("__name__" : Str))=false)(hd:(x==("__debug__" : Str))=false)(h:Q (.con v) σ):ET ep X ρ σ (.Name x ai) Q:=
 ji (cu eT hk) (pr.qG hx) (IV hb) (by simpa using hn) h hd
theorem TV{ep:EP}{sn:List (Str×NameKind)}{X:Fx}{ρ:Loc}(eT:X.aa.scope.names=sn){σ:St}{x:Str}(hk:(sn.lookup x==some .local)=true){v:LV}(hv:ρ x=some v)(hd:(x==("__debug__" : Str))=false){Q:LV→St→Prop}{ai:Pos}(h:Q v σ):ET ep X ρ σ (.Name x ai) Q:=yW (cu eT hk) hv h hd
theorem Nf{ep:EP}{sn:List (Str×NameKind)}{X:Fx}{σ:St}(eT:X.aa.scope.names=sn){v:LV}{ρ:Loc}{x:Str}(hk:(sn.lookup x==some .local)=true){QA:Loc→St→Prop}(h:QA (ρ.put x v) σ):AS ep ρ σ X (fun w=>storeName X.aa x w) QA v:=GW (cu eT hk) h
end
section
variable (X:Fx)(o a i:LV)(σ:St)(K:Value→Prop)(Q:LV→St→Prop)(Q1:St→Prop)(ep:EP)(l:List LV)(b:Addr)(k:Int)(w:Str)
noncomputable abbrev Zo:=iR X o "get" σ K
noncomputable abbrev V5:=iR X o "items" σ K
noncomputable abbrev Zp:=iR X o "append" σ K
noncomputable abbrev Zq:=iR X o "pop" σ K
noncomputable abbrev Zr:=iR X o "remove" σ K
noncomputable abbrev Zs:=iR X o "extend" σ K
noncomputable abbrev Zt:=bV σ X ep Q l (.builtin "list.append")
noncomputable abbrev YX:=bV σ X ep Q [.ref b] (.builtin "len")
noncomputable abbrev Zu:=bV σ X ep Q l (.builtin "bytearray.extend")
noncomputable abbrev Zv:=bV σ X ep Q l (.builtin "dict.get")
noncomputable abbrev YY:=bV σ X ep Q [.ref b] (.type "bytes")
noncomputable abbrev GIL:=GI X (.ref b) (.int k) σ Q ep
noncomputable abbrev GIS:=GI X (.ref b) (.str w) σ Q ep
noncomputable abbrev O3R(op:Value→Value→Value→Sem Unit)(d:LV):=O3 X op (.ref b) (.int k) d σ Q1 ep
end
end Lake
end
open Lake JL
open Lean in
local macro_rules |`(tactic| kt_le)=>do
 return Jm.sF ([[← Jm.yM `Ln.d1],[Jm.sW Jm.sS]]++Jm.sD "fh/_ Nat.le_trans!aD Int.le_trans!aD Int.lt_of_le_of_lt!aD Int.lt_of_lt_of_le!Da Int.le_trans!Da Int.le_of_lt!a Nat.le_of_lt!a Int.not_lt.mpr!a Int.not_le.mpr!a"++[[Jm.om]])
set_option compiler.extract_closed false
local macro_rules |`(tactic| k_ne)=>return Jm.q [] "(kPyProof.Rows.tacticBack_ro back_ro )"
local macro_rules |`(tactic| back_ro)=>return Jm.q [Jm.sW Jm.sS,Jm.sL,Jm.sA 'B',Jm.sA 'a'] "(tfirst first (n { $0 ! { (texact exact %HB ) ! { (texact exact [ %lk $3 { $1 ~ ] ) ! { (texact exact [ %TN { $1 ~ $2 ] ) ! { (texact exact [ %UN { $1 ~ $2 ] ) ! { $1 ! ) )"
local macro_rules |`(tactic| lk)=>return Jm.q [] "(trepeat' repeat' { (kPyProof.Rows.tacticBack_in back_in ) } )"
local macro_rules |`(tactic| wtm_at $s:str)=>return Jm.fe s.getString
local macro_rules |`(tactic| f_are)=>return Jm.sL
local macro_rules |`(tactic| da_tab)=>return Jm.q [Jm.sS,Jm.sA '_',Jm.sA 'L'] "(tfirst first (n { $0 ! { (texact exact [ %aI (mellipsis .. ) ] ) ! { (tfailIfSuccess fail_if_success { (tfailIfSuccess fail_if_success { (trewriteSeq rewrite (toptConfig (n ) ) (trwRuleSeq '[ (n (trwRule (n ) %av ) ) '] ) (n ) ) } ) } ) (texact exact [ (mproj [ %av $1 $1 { (kPyProof.Rows.tacticApart_at apart_at ) ~ ] . %trans ) $2 ] ) ! ) )"
local macro_rules |`(tactic| da_there)=>return Jm.sF ([[Jm.sL],[Jm.sS]]++Jm.sD "decide_eq_true!O Fj!O")
local macro_rules |`(tactic| dl_there)=>return Jm.sF ([[Jm.sL],[Jm.sS]]++Jm.sD "decide_eq_false!O Tx!O MN!O VI!O")
local macro_rules |`(tactic| back_in)=>return Jm.sF (Jm.mp Jm.sG ("ST#......=mP/? yX/? sIf/? Y9/? UH/? IB/AR? Za/R? Yz/RRR? Yy/RRR? YU/RARR? Zj/RRR? YC/U? YB/? Wg/r? QZ/? Zm/?
AS#.......=Nf/AD? YS/ADAWR? Zb/? YA/? cL/? vK/RRR?
LT#.....=YN/? YO/?
zT#.......=UM/? VJ/?
xv#......=VM!? YV!?
zU#.......=mq/? YL/?
IT#......=Ze/R? UE/?R Zg/? iOr/? OQ/? QD/? Zf/? VD/U?
TP/?
ET#......=TV/ADBD? YR/ADAUBDD? YQ/ADARBD? U4/? JN/? UD/? U6/? Sq/? VG/RR? V2/AADRDRR? V3/AADDRDDDRR? YD/R? Zh/G? Zc/? Zd/R? UG/?R Zl/? eOr/? YM/? YE/R? VF/R? VE/? YW/AADRD? IU/AADRD? V4/AADDRDD?
IE#.......=FA/AADRRR? TX/AADRRR? TY/AADRRR? YZ/AADRRR?
EO#......=eoS/? eoN/?
EA#......=YF/? Ff/?
Dg#...=PA/OO?
MH#...=Zi/E?
IA#...=YG/E?
O1#......=gF/ALDDRC?
OU#.......=sF/ALDDE?
Zo#....=YH/L?
V5#....=UL/L?
Zp#....=YI/L?
Zq#....=YJ/L?
Zr#....=YK/L?
Zs#....=OI/L?
iR#.....=mF/ALDRR?
Zt#.....=A2/L??
YX#.....=MM/L?? QO/L??
Zu#.....=OJ/L??
Zv#.....=K9/LA? La/LA?
YY#.....=OH/L??
bV#......=Wh/A?N? UO/AN? Pc/? OK/? OG/? QJ/?? Ta/? Tw/? S9/? QQ/? YT/??
O2#.......=Yx/? OL/? QR/? QT/T? Pd/T? vC/? Yt/? Yv/? Ys/? Yu/? Yq/? Tc/? Tb/? UI/? UJ/? Yr/? Ym/? Yn/? Vf/? Vg/? Yo/? Y6/? Yp/?O Vv/?O UK/?OO Vt/?OO Vu/?OODD
OB#......=JU/?
GIL#......=Y8/LDDR?
GIS#......=SS/LR?
O3R#........=Pa/LDEE? CH/L?F
Br#...=Br.QY/S? Br.VH/s? Br.mk/FF".splitOn "\n"))
section
namespace Lake
open JL
theorem bind1{vs:List Value}(hl:vs.length=1){fd:FuncData}(h:∀v,bindArgs fd ⟨[v],[]⟩=pure [(x,v)]):bindArgs fd ⟨vs,[]⟩=pure (List.zip [x] vs):=by obtain⟨v0,q0,rfl,l0⟩:=ls hl;cases mX l0;exact(h v0)
theorem bind2{vs:List Value}(hl:vs.length=2){y:Str}{fd:FuncData}(h:∀v w,bindArgs fd ⟨[v,w],[]⟩=pure [(x,v),(y,w)]):bindArgs fd ⟨vs,[]⟩=pure (List.zip [x,y] vs):=by obtain⟨v0,q0,rfl,l0⟩:=ls hl;obtain⟨v1,q1,rfl,l1⟩:=ls l0;cases mX l1;exact(h v0 v1)
theorem bind3{vs:List Value}(hl:vs.length=3){y z:Str}{fd:FuncData}(h:∀v w u,bindArgs fd ⟨[v,w,u],[]⟩=pure [(x,v),(y,w),(z,u)]):bindArgs fd ⟨vs,[]⟩=pure (List.zip [x,y,z] vs):=by obtain⟨v0,q0,rfl,l0⟩:=ls hl;obtain⟨v1,q1,rfl,l1⟩:=ls l0;obtain⟨v2,q2,rfl,l2⟩:=ls l1;cases mX l2;exact(h v0 v1 v2)
theorem V6:typeOf (.type "ValueError")=pure (.type "type"):=by k_in
theorem V7:Manifest.isStub "ValueError"=false:=by decide +kernel
theorem V8(P:Params):findCls (hd.heap_1_39 P) (.type "ValueError") (.type "type") "__init__"=some (.val (.builtin "ValueError.__init__")):=by k_in
theorem V9:handedIn (.builtin "ValueError.__init__")=true:=by decide
theorem Wa(pr:Pr X.G):vI X (.type "ValueError") "__init__" (.builtin "ValueError.__init__"):=by
 have e:findCls X.G.K (.type "ValueError") (.type "type") "__init__"=some (.val (.builtin "ValueError.__init__")):=by rw[pr.K];exact V8 _
 exact@De X "ValueError" "__init__" (.builtin "ValueError.__init__") V6 V7 e V9
theorem Wb(P:Params):specialIn (hd.heap_1_39 P) (.ref 39) "__getattribute__"=some (some (.builtin "type.__getattribute__")):=by k_in
theorem Wc(P:Params):readsIn (hd.heap_1_39 P) 39 (.type "type")=true:=by k_in
theorem We(P:Params):findCls (hd.heap_1_39 P) (.ref 39) (.type "type") "__init__"=some (.val (.ref 36)):=by k_in
theorem Wf(pr:Pr X.G):vI X (.ref 39) "__init__" (.ref 36):=by
 have e1:specialIn X.G.K (.ref 39) "__getattribute__"=some (some (.builtin "type.__getattribute__")):=by rw[pr.K];exact Wb _
 have e2:readsIn X.G.K 39 (.type "type")=true:=by rw[pr.K];exact Wc _
 have e3:findCls X.G.K (.ref 39) (.type "type") "__init__"=some (.val (.ref 36)):=by rw[pr.K];exact We _
 exact@Fg X 39 "__init__" (.ref 36) e1 e2 e3 rfl
structure HI(K:Frag)(C:Addr):Prop where
 own:gh K C=true
 over:mU K C=true
 dict:hasDictIn K C=true
 oZ:findIn K (.ref C) "__setattr__"=some (some (.builtin "object.__setattr__"))
 r:findIn K (.ref C) "reason"=some none
 w:findIn K (.ref C) "writes"=some none
 ty:typeIn K (.ref C)=some (.type "type")
 tup:instIn K (.ref C) (.type "tuple")=some false
theorem qH(pr:Pr G):HI G.K 76:=by rw[pr.K];exact⟨by k_in,by k_in,by k_in,by k_in,by k_in,by k_in,by k_in,by k_in⟩
theorem tm(pr:Pr G):HI G.K 95:=by rw[pr.K];exact⟨by k_in,by k_in,by k_in,by k_in,by k_in,by k_in,by k_in,by k_in⟩
section
variable {G:Gd}{σ:St}{Q:LV→St→Prop}{ep:EP}
theorem xF{x:Addr}{r:LV}(pr:Pr G)(e:σ x=some (t,.exc C none 0))(hC:HI G.K C)
 (h:∀dx,σ dx=none→dx≠x→Q .none (upd (upd σ dx (t,.dK x)) x (t,.exc C (some dx) 1))):CallT 1 b0 (.ref 36) G σ Q [.ref x,r]:=by
 refine CallT.Q3 (names:=["self","reason"]) (ep:=b0) (by rw[pr.K];rfl) rfl (by rw[pr.K];rfl) rfl (by rw[pr.K];k_in) (fun vs hl=>by obtain⟨x0,q0,rfl,l0⟩:=ls hl;obtain⟨x1,q1,rfl,l1⟩:=ls l0;cases mX l1;exact⟨_,rfl,rfl⟩) rfl %[|0] %[|0] %[|0] (fun c aa F1 F2 F3=>?_)
 refine mP (IB (by assumption) (by f_are) (BA (v:=.type "ValueError") (f:=.builtin "ValueError.__init__") (by f_are) (by f_are) ?_))
 refine ji (cu (by assumption) %[|0]) (pr.qG %[|0]) (by decide +kernel) %[|0] ⟨fun _ _ z=>z,nr,Wa pr,?_⟩
 lk
 refine zO e hC.own (jy rfl) ?_
 lk
 exact CY (t':=t) e hC.over hC.dict hC.oZ hC.r fun dx h1 h2=>yX (h dx h1 h2)
theorem Dw{r:LV}(pr:Pr G)(h:∀x dx,σ x=none→σ dx=none→dx≠x→Q (.ref x) (upd (upd (upd σ x (t,.exc 76 none 0)) dx (t,.dK x)) x (t,.exc 76 (some dx) 1))):CallT 2 b0 (.ref 76) G σ Q [r]:=by
 have hC:=qH pr
 refine CallT.By (t:=t) hC.own (fI:=36) (by rw[pr.K];k_in) (by rw[pr.K];k_in) (jy rfl) fun x hx=>xF pr (aI ..) hC fun dx h1 h2=>⟨rfl,h x dx hx ?_ h2⟩
 rw[av _ _ h2]at h1;exact h1
theorem Fw{x:Addr}(pr:Pr G)(e:σ x=some (t,.exc 95 none 0))(hn:n.natAbs.log2<1920)
 (h:∀dx,σ dx=none→dx≠x→Q .none (upd (upd (upd σ dx (t,.dK x)) x (t,.exc 95 (some dx) 1)) x (t,.exc 95 (some dx) 2))):CallT 2 b0 (.ref 92) G σ Q [.ref x,.int n]:=by
 have hC:=tm pr
 wtm_at "fnK b0|self writes"
 intro c aa F1 F2 F3
 refine mP (IB (by assumption) (by f_are) (BA (v:=.ref 39) (f:=.ref 36) (by f_are) (by f_are) ?_))
 refine IU pr (by assumption) %[|0] (by f_are) %[|0] ⟨fun _ _ z=>z,uU (by rw[pr.K];k_in),Wf pr,?_⟩
 refine Ff (TV (by assumption) %[|0] (by f_are) %[|0] (Ff (Hx (cu (by assumption) %[|0]) (by f_are) hn %[|0] %[|0] fun r=>?_)))
 refine aT (xF pr e hC fun dx h1 h2=>?_) rfl
 lk
 exact Dc (aI ..) hC.over hC.dict hC.oZ hC.w %[|0] (yX (h dx h1 h2))
theorem Fy(pr:Pr G)(hn:n.natAbs.log2<1920)
 (h:∀x dx,σ x=none→σ dx=none→dx≠x→Q (.ref x) (upd (upd (upd (upd σ x (t,.exc 95 none 0)) dx (t,.dK x)) x (t,.exc 95 (some dx) 1)) x (t,.exc 95 (some dx) 2))):CallT 3 b0 (.ref 95) G σ Q [.int n]:=by
 have hC:=tm pr
 refine CallT.By (t:=t) hC.own (fI:=92) (by rw[pr.K];k_in) (by rw[pr.K];k_in) (jy rfl) fun x hx=>Fw pr (aI ..) hn fun dx h1 h2=>⟨rfl,h x dx hx ?_ h2⟩
 rw[av _ _ h2]at h1;exact h1
theorem Fz{x dx:Addr}{c1 c2 c3:Tag×LO}(hx:σ x=none)(hd:σ dx=none):i0 (upd (upd (upd σ x c1) dx c2) x c3) x (some dx)=σ:=
 zP (fun b h1 h2=>by rw[av _ _ h1,av _ _ (fun z=>h2 (by rw[z])),av _ _ h1]) hx (fun d e=>by cases e;exact hd)
theorem Dx{x dx:Addr}{c1 c2 c3 c4:Tag×LO}(hx:σ x=none)(hd:σ dx=none):i0 (upd (upd (upd (upd σ x c1) dx c2) x c3) x c4) x (some dx)=σ:=
 zP (fun b h1 h2=>by rw[av _ _ h1,av _ _ h1,av _ _ (fun z=>h2 (by rw[z])),av _ _ h1]) hx (fun d e=>by cases e;exact hd)
end
noncomputable abbrev Ab(X:Fx)(ep:EP):LV→St→Prop:=fun v ah=>∃x t C d m,v=.ref x∧ah x=some (t,.exc C d m)∧gh X.G.K C=true∧typeIn X.G.K (.ref C)=some (.type "type")∧ep.Q C (i0 ah x d)
section
variable {X:Fx}{ρ:Loc}{σ:St}{Q:LF→Loc→St→Prop}{ep:EP}
theorem Wg{ai:Pos}(jL:ep.fr=true)(h:ET ep X ρ σ e (Ab X ep)):ST ep σ ρ X Q (exec (.Raise (some e) none ai) X.aa):=Hu h jL
theorem UO{r:LV}(pr:Pr X.G)(hn:Nat.ble 2 X.n=true)(hq:ep.Q 76 σ):bV σ X ep (Ab X ep) [r] (.ref 76):=
 aT (Dw (t:=(0,0,0)) pr fun x dx h1 h2 h3=>⟨x,_,76,some dx,1,rfl,aI ..,(qH pr).own,(qH pr).ty,by rw[Fz h1 h2];exact hq⟩) hn
theorem Wh(pr:Pr X.G)(hb:n.natAbs.log2<1920)(hn:Nat.ble 3 X.n=true)(hq:ep.Q 95 σ):bV σ X ep (Ab X ep) [.int n] (.ref 95):=
 aT (Fy (t:=(0,0,0)) pr hb fun x dx h1 h2 h3=>⟨x,_,95,some dx,2,rfl,aI ..,(tm pr).own,(tm pr).ty,by rw[Dx h1 h2];exact hq⟩) hn
end
structure aE where
 aQ:Int
 size:Int
 kept:bW
 gN:bW
 bx:bW
 writes:Int
 bj:Int
 last:Option Int
 bl:Option Int
 cj:Bool
 deriving Nonempty
noncomputable def oi:Option Int→LV
 |none=>.none
 |some i=>.int i
theorem Ra(x:Option Int):Fv (oi x)=true:=by cases x<;>rfl
noncomputable def c7(p:Int×bc):LV:=.tup [.int p.1,.bX p.2]
noncomputable abbrev yD(D:aE)(la lf:LV)(k l u:Addr):List (Str×LV):=[("blocks",.int D.aQ),("size",.int D.size),("kept",.ref k),("latest",.ref l),("unflushed",.ref u),("writes",.int D.writes),("flushes",.int D.bj),("last",la),("last_flush",lf),("is_dead",.bool D.cj)]
noncomputable abbrev tw(D:aE)(k l u:Addr):List (Str×LV):=yD D (oi D.last) (oi D.bl) k l u
structure IW(dx k l u:Addr)(pl pk:Nat)(o:Nat)(d:Addr)(D:aE)(σ:St):Prop where
 d:σ d=some ((o,0,0),.inst 531 dx (tw D k l u))
 k:σ k=some ((o,1,0),.dict (aU D.kept) pk)
 l:σ l=some ((o,2,0),.dict (aU D.gN) pl)
 u:σ u=some ((o,3,0),.list (D.bx.map c7))
inductive bY(σ:St)(o:Nat)(d:Addr)(D:aE):Prop where
 |mk (dx k l u:Addr) (pk pl:Nat) (h:IW dx k l u pl pk o d D σ)
noncomputable def aF(P:Nat→Prop)(σ σ':St):Prop:=∀a t ob,¬P t.1→σ a=some (t,ob)→σ' a=some (t,ob)
theorem aF.refl(P:Nat→Prop)(σ:St):aF P σ σ:=fun _ _ _ _ e=>e
theorem aF.trans{P:Nat→Prop}{σ σ' oY:St}(h:aF P σ σ')(k:aF P σ' oY):aF P σ oY:=fun a t ob z e=>k a t ob z (h a t ob z e)
theorem aF.mono{P' P:Nat→Prop}{σ σ':St}(h:aF P σ σ')(k:∀x,P x→P' x):aF P' σ σ':=fun a t ob z=>h a t ob fun y=>z (k _ y)
theorem aF.upd{P:Nat→Prop}{σ σ':St}{a:Addr}{t:Tag}{ob:LO}{c:Tag×LO}(h:aF P σ σ')(e:σ' a=some (t,ob))(ht:P t.1)(_:P c.1.1):aF P σ (upd σ' a c):=h.trans fun b u x z q=>by
 by_cases y:b=a
 ·subst y;rw[q]at e;cases e;exact absurd ht z
 rw[av _ _ y];exact q
theorem aF.ja{P:Nat→Prop}{c:Tag×LO}(h:aF P σ σ')(e:σ' a=none):aF P σ (Lake.upd σ' a c):=h.trans fun b u x z q=>by
 by_cases y:b=a
 ·subst y;nomatch q,e
 rw[av _ _ y];exact q
theorem aF.new{P:Nat→Prop}{c:Tag×LO}(h:aF P σ σ')(e:σ' a=none)(_:P c.1.1):aF P σ (Lake.upd σ' a c):=h.ja e
theorem aF.fresh{P:Nat→Prop}{c:Tag×LO}(h:aF P σ σ')(e:σ a=none):aF P σ (Lake.upd σ' a c):=fun b u x z q=>by
 by_cases y:b=a
 ·subst y;nomatch q,e
 rw[av _ _ y];exact h b u x z q
theorem aF.at{t:Tag}{a:Addr}{ob:LO}{P:Nat→Prop}{σ σ':St}(h:aF P σ σ')(e:σ a=some (t,ob))(z:¬P t.1):σ' a=some (t,ob):=h a t ob z e
theorem neT{σ:St}{b:Addr}{u:Tag}{o':LO}{a:Addr}{t:Tag}{o:LO}(h:σ a=some (t,o))(h':σ b=some (u,o'))(z:(t.2.1==u.2.1)=false):a≠b:=fun y=>by
 subst y;rw[h]at h';cases h';simp at z
noncomputable def eB(m:bW)(k:Int)(b:bc):bW:=if m.any (fun e=>e.1=k)then m.map (fun e=>if e.1=k then(e.1,b)else e)else m++[(k,b)]
noncomputable def bS(m:bW):bW→bW
 |[]=>m
 |p::r=>bS (eB m p.1 p.2) r
theorem HJ{m:bW}{p:Int×bc}{r:bW}:bS m (p::r)=bS (eB m p.1 p.2) r:=rfl
theorem kn:∀(m:bW) (k:Int) (b:bc),f9 (aU m) k (.bX b)=aU (eB m k b):=by
 rintro m k b:(_)
 unfold f9 eB aU
 rw[List.any_map]
 have e:((fun e:Int×LV=>decide (e.1=k))∘fun p:Int×bc=>(p.1,LV.bX p.2))=fun e=>decide (e.1=k):=rfl
 rw[e]
 split
 ·rw[ey,ey];refine map_congr_left fun p _=>?_;show(if p.1=k then(p.1,LV.bX b)else(p.1,LV.bX p.2))=_;show _=(fun p:Int×bc=>(p.1,LV.bX p.2)) (if p.1=k then(p.1,b)else p);split<;>rfl
 rw[bZ];rfl
section
variable {X:Fx}{ρ:Loc}{σ:St}{K:List LV→(St→Prop)→St→Prop}{ep:EP}{aB:Expr}{sn:List (Str×NameKind)}
theorem FA{ai:Pos}(pr:Pr X.G)(eT:X.aa.scope.names=sn)(hk:(sn.lookup (Str.ofString "enumerate")==some .globalImplicit)=true)(ht:tc aB=true)(hp:dg [e]=true)
 (he:eval (.Call (.Name (Str.ofString "enumerate") p1) [e] [] ai) X.aa=(do callWith ai (← eval (.Name (Str.ofString "enumerate") p1) X.aa) [] (backTo ai (starEach [e] X.aa)) (backToKw ai (keywordEach [] X.aa))))
 (h:ET ep X ρ σ e (zS K)):IE X ρ σ (.Call (.Name (Str.ofString "enumerate") p1) [e] [] ai) aB K ep:=PC ht hp (cu eT hk) (pr.qG %[|0]) he h
theorem YZ{ai:Pos}(pr:Pr X.G)(eT:X.aa.scope.names=sn)(hk:(sn.lookup (Str.ofString "reversed")==some .globalImplicit)=true)(ht:fO aB=true)(hp:dg [e]=true)
 (he:eval (.Call (.Name (Str.ofString "reversed") p1) [e] [] ai) X.aa=(do callWith ai (← eval (.Name (Str.ofString "reversed") p1) X.aa) [] (backTo ai (starEach [e] X.aa)) (backToKw ai (keywordEach [] X.aa))))
 (h:EA X ρ [e] σ (Hz K) ep):IE X ρ σ (.Call (.Name (Str.ofString "reversed") p1) [e] [] ai) aB K ep:=TA ht hp (cu eT hk) (pr.qG %[|0]) he h
theorem TX{ep:EP}{X:Fx}{sn:List (Str×NameKind)}{ρ:Loc}{σ:St}{K:List LV→(St→Prop)→St→Prop}{aB:Expr}{ai:Pos}(pr:Pr X.G)(eT:X.aa.scope.names=sn)(hk:(sn.lookup (Str.ofString "range")==some .globalImplicit)=true)(ht:fO aB=true)(hp:dg [e]=true)(he:eval (.Call (.Name (Str.ofString "range") p1) [e] [] ai) X.aa=(do callWith ai (← eval (.Name (Str.ofString "range") p1) X.aa) [] (backTo ai (starEach [e] X.aa)) (backToKw ai (keywordEach [] X.aa))))(h:EA X ρ [e] σ (Dg K) ep):IE X ρ σ (.Call (.Name (Str.ofString "range") p1) [e] [] ai) aB K ep:=KA ht hp (cu eT hk) (pr.qG %[|0]) he h
theorem TY{e1 e2 e3:Expr}{ai:Pos}(pr:Pr X.G)(eT:X.aa.scope.names=sn)(hk:(sn.lookup (Str.ofString "range")==some .globalImplicit)=true)(ht:fO aB=true)(hp:dg [e1,e2,e3]=true)
 (he:eval (.Call (.Name (Str.ofString "range") p1) [e1,e2,e3] [] ai) X.aa=(do callWith ai (← eval (.Name (Str.ofString "range") p1) X.aa) [] (backTo ai (starEach [e1,e2,e3] X.aa)) (backToKw ai (keywordEach [] X.aa))))
 (h:EA X ρ [e1,e2,e3] σ (Dh K) ep):IE X ρ σ (.Call (.Name (Str.ofString "range") p1) [e1,e2,e3] [] ai) aB K ep:=KC ht hp (cu eT hk) (pr.qG %[|0]) he h
end
theorem HK{b:bc}(pr:Pr G)(h:Q (.bX b) σ):CallT 1 b0 (.ref 542) G σ Q [.bX b]:=by
 wtm_at "fnK b0|value"
 intro c aa F1 F2 F3
 lk
 exact h
structure aE.Ok(D:aE)(w:Nat):Prop where
 s0:0<D.size
 s1:D.size≤1000
 m:D.gN.length+D.kept.length+D.bx.length+D.writes.toNat+D.bj.toNat≤w
 w0:0≤D.writes
 f0:0≤D.bj
 lb:∀e∈D.gN,(e.2.length:Int)=D.size
 kb:∀e∈D.kept,(e.2.length:Int)=D.size
 ub:∀e∈D.bx,(e.2.length:Int)=D.size
theorem KN(h0:0≤n)(h:n≤100000):n.natAbs.log2<1920:=by
 by_cases z:n.natAbs=0
 ·rw[z];decide
 exact(Nat.log2_lt z).mpr (Nat.lt_of_le_of_lt (show n.natAbs≤2 ^ 17 from Int.ofNat_le.mp (by rw[Int.natAbs_of_nonneg h0];exact qg h %[|0])) (Nat.pow_lt_pow_right %[|0] %[|0]))
noncomputable def aE.bk(D:aE)(n:Int):bc:=(cq D.gN n).getD (List.replicate D.size.toNat 0)
noncomputable def aE.wr(D:aE)(n:Int)(b:bc):aE:={D with writes:=D.writes+1,gN:=eB D.gN n b,bx:=D.bx++[(n,b)]}
noncomputable def aE.ju(D:aE):aE:={D with cj:=true}
noncomputable def aE.fl(D:aE):aE:={D with bj:=D.bj+1,kept:=bS D.kept D.bx,bx:=[]}
noncomputable def cG:Option Int→Int→Bool
 |none,_=>false
 |some l,w=>decide (l≤w)
section
variable {G:Gd}{σ:St}{Q:LV→St→Prop}{ep:EP}{o:Nat}{d:Addr}{D:aE}
theorem Ac(pr:Pr G)(hD:bY σ o d D)(hd:D.cj=false)(h:Q .none σ):CallT 1 b0 (.ref 458) G σ Q [.ref d]:=by
 obtain⟨dx,k,l,u,pk,pl,e1,e2,e3,e4⟩:=hD
 wtm_at "fnK b0|self"
 intro c aa F1 F2 F3
 lk
 exact h
theorem IY:∀ {n:Int} (pr:Pr G) (hD:bY σ o d D) (h0:0≤n) (h1:n<D.aQ) (h:Q .none σ),CallT 1 b0 (.ref 465) G σ Q [.ref d,.int n]:=by
 revert G σ Q o d D
 rintro G σ Q o d D n:(_)
 w_up
 obtain⟨dx,k,l,u,pk,pl,e1,e2,e3,e4⟩:=hD
 wtm_at "fnK b0|self number"
 rintro c aa:(_)
 intro F1 F2 F3
 lk
 exact h
theorem vS{σ:St}{o:Nat}{d:Addr}{D:aE}{G:Gd}{Q:LV→St→Prop}(pr:Pr G)(hD:bY σ o d D)(hd:D.cj=false)(h0:0≤n)(h1:n<D.aQ)(ok:D.Ok 9000)(h:Q (.bX (D.bk n)) σ):CallT 2 b0 (.ref 472) G σ Q [.ref d,.int n]:=by
 have sx:=hD
 obtain⟨dx,k,l,u,pk,pl,e1,e2,e3,e4⟩:=hD
 wtm_at "fnK b0|self number"
 intro c aa F1 F2 F3
 lk
 refine aT (Ac pr sx hd ?_) rfl
 lk
 refine aT (IY pr sx h0 h1 ?_) rfl
 lk
 have k0:=ok.s0
 have k1:=ok.s1
 refine pn %[|k0] %[|k1] ?_
 lk
 refine yd e3 ?_
 rw[eZ]
 unfold aE.bk at h
 cases q:cq D.gN n with
 |none=>rw[q]at h;exact h
 |some b=>rw[q]at h;exact h
theorem IZ{P:Nat→Prop}(pr:Pr G)(hD:bY σ o d D)(hP:P o)(ok:D.Ok 9000)(h:∀σ',aF P σ σ'→bY σ' o d D.ju→ep.Q 95 σ'):CallT 4 ⟨false,ep.Q⟩ (.ref 486) G σ Q [.ref d]:=by
 obtain⟨dx,k,l,u,pk,pl,e1,e2,e3,e4⟩:=hD
 have n1:=(neT e1 e2 rfl).symm
 have n2:=(neT e1 e3 rfl).symm
 have n3:=(neT e1 e4 rfl).symm
 wtm_at "fnK te|self"
 intro c aa F1 F2 F3
 lk
 ·exact KN ok.w0 (by have:=ok.m;(have w0:=Ln.fT (D.writes);revert this w0;room))
 exact h _ ((aF.refl P σ).upd e1 hP hP) ⟨dx,k,l,u,pk,pl,aI ..,(av _ _ n1).trans e2,(av _ _ n2).trans e3,(av _ _ n3).trans e4⟩
theorem FC:∀ {P:Nat→Prop} {n:Int} {b:bc} (pr:Pr G) (hD:bY σ o d D) (hP:P o) (hd:D.cj=false) (h0:0≤n) (h1:n<D.aQ) (hb:(b.length:Int)=D.size) (ok:D.Ok 9000) (h:cG D.last D.writes=false→∀σ',aF P σ σ'→bY σ' o d (D.wr n b)→Q .none σ') (hc:cG D.last D.writes=true→∀σ',aF P σ σ'→bY σ' o d D.ju→ep.Q 95 σ'),CallT 5 ⟨false,ep.Q⟩ (.ref 479) G σ Q [.ref d,.int n,.bX b]:=by
 law_purse 0 =>
 revert G σ Q ep o d D
 rintro G σ Q ep o d D P n:(_)
 rintro b:(_)
 w_up
 have sx:=hD
 obtain⟨dx,k,l,u,pk,pl,e1,e2,e3,e4⟩:=hD
 wtm_at "fnK ep|self number octets"
 rintro c aa:(_)
 intro F1 F2 F3
 lk
 refine aT (Ac pr sx hd ?_) rfl
 lk
 refine aT (IY pr sx h0 h1 ?_) rfl
 lk
 refine aT (HK pr ?_) rfl
 lk
 ·have:=ok.s1;exists hb,this
 have hm:=ok.m
 have n2:=(neT e1 e3 rfl).symm
 have n3:=(neT e1 e4 rfl).symm
 have n4:=(neT e3 e4 rfl).symm
 have n5:=neT e1 e3 rfl
 have n6:=(neT e1 e2 rfl).symm
 have n7:=(neT e2 e3 rfl)
 have n8:=(neT e2 e4 rfl)
 have n9:=(neT e3 e4 rfl)
 have hz:(aU D.gN).length≤10000:=by unfold aU;rw[bB];exists hm
 have hv:(D.bx.map c7).length≤100000:=by rw[bB];exists hm
 have fin:∀(l1 l2:LV) (dp:Nat),l1=oi D.last→cG D.last D.writes=false→Q .none (upd (upd (upd σ d ((o,0,0),.inst 531 dx (wA (yD D l1 (oi D.bl) k l u) "writes" (.int (D.writes+1))))) l ((o,2,0),.dict (f9 (aU D.gN) n (.bX b)) dp)) u ((o,3,0),.list (D.bx.map c7++[.tup [.int n,.bX b]]))):=fun l1 l2 dp cU hr=>by
  subst cU;refine h hr _ ((((aF.refl P σ).upd e1 hP hP).upd ((av _ _ n2).trans e3) hP hP).upd ((av _ _ n9.symm).trans ((av _ _ n3).trans e4)) hP hP) ⟨dx,k,l,u,pk,dp,?_,?_,?_,?_⟩
  ·rw[av _ _ n3.symm,av _ _ n5,aI];rfl
  ·rw[av _ _ n8,av _ _ n7,av _ _ n6];exact e2
  ·rw[av _ _ n9,aI,kn];rfl
  rw[aI];unfold aE.wr;rw[bZ];rfl
 cases q:D.last with
 |none =>
  refine vC ?_;lk
  ·exact hz
  ·exact hv
  exact fin _ .none _ rfl (by rw[q];rfl)
 |some la =>
  have xG:σ d=some ((o,0,0),.inst 531 dx (yD D (.int la) (oi D.bl) k l u)):=by rw[e1];unfold tw;rw[q];rfl
  clear e1;lk
  ·rename_i z;refine fu (IZ pr sx hP ok fun σ' h1 h2=>hc (by rw[q];exact z) σ' h1 h2) rfl
  ·exact hz
  ·exact hv
  rename_i z _;exact fin _ .none _ (by rw[q];rfl) (by rw[q];exact z)
end
theorem pz(m:bW)(l:bW)(p:Int×bc):bS m (l++[p])=eB (bS m l) p.1 p.2:=by
 induction l generalizing m with
 |nil=>rfl
 |cons q r ih=>exact ih _
theorem c8{l:List α}{x:α}(h:l[i]?=some x):l.take (i+1)=l.take i++[x]:=by rw[List.take_add_one,h];rfl
theorem Ad(m:bW)(k:Int)(b:bc):(eB m k b).length≤m.length+1:=by unfold eB;split<;>simp
theorem kR(l:bW):∀m:bW,(bS m l).length≤m.length+l.length:=by
 induction l with
 |nil=>intro m;exact fg _
 |cons q r ih=>intro m;have a1:=ih (eB m q.1 q.2);have a2:=Ad m q.1 q.2;simp only[HJ,gH];exists a1,a2
section
variable {G:Gd}{σ:St}{Q:LV→St→Prop}{ep:EP}{o:Nat}{d:Addr}{D:aE}
theorem FD:∀ {P:Nat→Prop} (pr:Pr G) (hD:bY σ o d D) (hP:P o) (hd:D.cj=false) (ok:D.Ok 9000) (h:cG D.bl D.bj=false→∀σ',aF P σ σ'→bY σ' o d D.fl→Q .none σ') (hc:cG D.bl D.bj=true→∀σ',aF P σ σ'→bY σ' o d D.ju→ep.Q 95 σ'),CallT 5 ⟨false,ep.Q⟩ (.ref 493) G σ Q [.ref d]:=by
 law_purse 0 =>
 revert G σ Q ep o d D
 rintro G σ Q ep o d D:(_)
 rintro P:(_)
 w_up
 have sx:=hD
 obtain⟨dx,k,l,u,pk,pl,e1,e2,e3,e4⟩:=hD
 revert dx k l u pk pl e1 e2 e3 e4
 rintro dx k l u pk:(_)
 rintro pl:(_)
 intro e1 e2 e3 e4
 wtm_at "fnK ep|self"
 rintro c aa:(_)
 intro F1 F2 F3
 lk
 refine aT (Ac pr sx hd ?_) rfl
 have hm:=ok.m
 have n2:=(neT e1 e3 rfl).symm
 have n3:=(neT e1 e4 rfl).symm
 have n3':=(neT e1 e4 rfl)
 have n5:=neT e1 e3 rfl
 have n6:=(neT e1 e2 rfl).symm
 have Wi:=(neT e1 e2 rfl)
 have n7:=(neT e2 e3 rfl)
 have n8:=(neT e2 e4 rfl)
 have n9:=(neT e3 e4 rfl)
 refine sr (fun bt σ'=>bt=fq ["self"] [.ref d]∧σ=σ'∧cG D.bl D.bj=false) ?_ ?_
 ·lk;cases q:D.bl with
  |none =>
   refine vC ?_;lk;exact⟨rfl,rfl,rfl⟩
  |some la =>
   have xG:σ d=some ((o,0,0),.inst 531 dx (yD D (oi D.last) (.int la) k l u)):=by rw[e1];unfold tw;rw[q];rfl
   clear e1;lk
   ·rename_i z;refine fu (IZ pr sx hP ok fun σ' h1 h2=>hc (by rw[q];exact z) σ' h1 h2) rfl
   rename_i z;exact⟨rfl,rfl,z⟩
 rintro _ _ ⟨rfl,rfl,hr⟩:_
 rename_i σ
 lk
 refine gW F2 (by intro _;with_unfolding_all rfl) (yy rfl ?_)
 lk
 refine Dj ((av _ _ n3).trans e4) (gV (fun i aC ae=>aC "self"=some (.ref d)∧∃pk,aF P σ ae∧IW dx k l u pl pk o d {D with bj:=D.bj+1,kept:=bS D.kept (D.bx.take i)} ae) ?_ ⟨?_,?_⟩)
 ·exact⟨rfl,pk,(aF.refl P σ).upd e1 hP hP,aI ..,(av _ _ n6).trans e2,(av _ _ n2).trans e3,(av _ _ n3).trans e4⟩
 ·rintro its i v aC ae:(_);rintro hv eI ⟨hs,pk,ho,e1,e2,e3,e4⟩:_;obtain⟨⟨n,b⟩,hp,rfl⟩:∃p,D.bx[i]?=some p∧c7 p=v:=by rw[List.getElem?_map]at hv;simpa using hv
  unfold c7;lk
  ·have:=kR (D.bx.take i) D.kept;rw[iM]at this;unfold aU;rw[bB];simp only;(have w2:=Ln.gm i D.bx.length;revert hm this w2;kt_len)
  rename_i dp;refine⟨⟨_,(av _ _ n8.symm).trans e4⟩,by k_ne,dp,ho.upd e2 hP hP,(av _ _ Wi).trans e1,?_,(av _ _ n7.symm).trans e3,(av _ _ n8.symm).trans e4⟩;rw[aI,kn,c8 hp,pz]
 rintro aC ae:(_)
 rintro eI ⟨hs,pk,ho,e1,e2,e3,e4⟩:_
 revert hs pk ho e1 e2 e3 e4
 intro hs
 rintro pk:(_)
 intro ho e1 e2 e3 e4
 rw[bB,ib]at e1 e2
 lk
 refine iu (o,3,0) ?_
 rintro u':(_)
 intro hu
 have m1:u'≠d:=by first|exact Lake.cR e1 hu|exact Lake.cD e1 hu|exact Lake.iI e1 hu rfl|exact Lake.fG e1 hu rfl|exact(fun z=>by rw[z,e1]at hu;cases hu)
 have m2:u'≠k:=by first|exact Lake.cR e2 hu|exact Lake.cD e2 hu|exact Lake.iI e2 hu rfl|exact Lake.fG e2 hu rfl|exact(fun z=>by rw[z,e2]at hu;cases hu)
 have m3:u'≠l:=by first|exact Lake.cR e3 hu|exact Lake.cD e3 hu|exact Lake.iI e3 hu rfl|exact Lake.fG e3 hu rfl|exact(fun z=>by rw[z,e3]at hu;cases hu)
 lk
 refine h hr _ ((ho.new hu hP).upd ((av _ _ m1.symm).trans e1) hP hP) ⟨dx,k,l,u',pk,pl,aI ..,?_,?_,?_⟩
 ·rw[av _ _ n6,av _ _ m2.symm];exact e2
 ·rw[av _ _ n2,av _ _ m3.symm];exact e3
 rw[av _ _ m1,aI];rfl
end
section
variable {G:Gd}{σ:St}{Q:LV→St→Prop}{ep:EP}{o:Nat}{d:Addr}{D:aE}{P:Nat→Prop}
theorem PJ(pr:Pr G)(hD:bY σ o d D)(hP:P o)(hn:0≤n)(h:∀σ',aF P σ σ'→bY σ' o d {D with last:=some (D.writes+n)}→Q .none σ'):CallT 1 b0 (.ref 500) G σ Q [.ref d,.int n]:=by
 obtain⟨dx,k,l,u,pk,pl,e1,e2,e3,e4⟩:=hD
 have n1:=neT e1 e2 rfl
 have n2:=neT e1 e3 rfl
 have n3:=neT e1 e4 rfl
 wtm_at "fnK b0|self count"
 intro c aa F1 F2 F3
 lk
 exact h _ ((aF.refl P σ).upd e1 hP hP) ⟨dx,k,l,u,pk,pl,aI ..,by da_tab,by da_tab,by da_tab⟩
theorem Ng(pr:Pr G)(hD:bY σ o d D)(hP:P o)(hn:0≤n)(h:∀σ',aF P σ σ'→bY σ' o d {D with bl:=some (D.bj+n)}→Q .none σ'):CallT 1 b0 (.ref 507) G σ Q [.ref d,.int n]:=by
 obtain⟨dx,k,l,u,pk,pl,e1,e2,e3,e4⟩:=hD
 have n1:=neT e1 e2 rfl
 have n2:=neT e1 e3 rfl
 have n3:=neT e1 e4 rfl
 wtm_at "fnK b0|self count"
 intro c aa F1 F2 F3
 lk
 exact h _ ((aF.refl P σ).upd e1 hP hP) ⟨dx,k,l,u,pk,pl,aI ..,by da_tab,by da_tab,by da_tab⟩
noncomputable def aE.new(b s:Int):aE:=⟨b,s,[],[],[],0,0,none,none,false⟩
theorem neN{b:Addr}{σ:St}{a:Addr}{c:Tag×LO}(h:σ a=some c)(k:σ b=none):a≠b:=by first|exact Lake.cR k h|exact Lake.cD k h|exact Lake.iI k h rfl|exact Lake.fG k h rfl|exact(fun z=>by rw[z,k]at h;cases h)
theorem PL:∀ {x dx:Addr} {b s:Int} (pr:Pr G) (hb:1≤b) (hs:1≤s) (e1:σ x=some ((o,0,0),.inst 531 dx [])) (hP:P o) (h:∀σ',aF P σ σ'→bY σ' o x (aE.new b s)→Q .none σ'),CallT 1 b0 (.ref 451) G σ Q [.ref x,.int b,.int s]:=by
 law_purse 0 =>
 revert G σ Q o P
 rintro G σ Q o P x dx b s:(_)
 w_up
 wtm_at "fnK b0|self blocks size"
 rintro c aa:(_)
 intro F1 F2 F3
 lk
 refine iS ⟨(o,1,0),?_⟩
 rintro k pk:(_)
 intro hk
 have n1:=neN (aI ..) hk
 lk
 refine iS ⟨(o,2,0),?_⟩
 rintro l pl:(_)
 intro hl
 have n2:=neN (aI ..) hl
 have cU:=hl
 rw[av _ _ n2.symm]at cU
 have n3:=neN (aI ..) cU
 lk
 refine iu (o,3,0) fun u hu=>?_
 have n4:=neN (aI ..) hu
 have I0:=hu
 rw[av _ _ n4.symm]at I0
 have n5:=neN (aI ..) I0
 rw[av _ _ n5.symm,av _ _ n4.symm]at I0
 have n6:=neN (aI ..) I0
 lk
 refine h _ ?_ ⟨dx,k,l,u,pk,pl,aI ..,by da_tab,by da_tab,by da_tab⟩
 repeat' first
  |exact aF.refl P σ
  |exact hP
  |refine aF.new ?_ (by assumption) ?_
  |refine aF.upd ?_ (by da_tab) ?_ ?_
theorem I1{b s:Int}(pr:Pr G)(hb:1≤b)(hs:1≤s)(hP:P o)(h:∀x σ',σ x=none→aF P σ σ'→bY σ' o x (aE.new b s)→Q (.ref x) σ'):CallT 2 b0 (.ref 531) G σ Q [.int b,.int s]:=by
 refine CallT.make (t:=(o,0,0)) (t':=(o,0,1)) (fI:=451) (by rw[pr.K];k_in) (by rw[pr.K];k_in) (by rw[pr.K];k_in) fun x dx hx pU ne=>PL (P:=P) pr hb hs (aI ..) hP fun σ' h1 h2=>⟨rfl,h x σ' hx (.trans (.new (.new (.refl P σ) pU hP) ?_ hP) h1) h2⟩
 rw[av _ _ ne];exact hx
end
noncomputable def gy(cs:List Int)(us:bW):bW:=(us.zipIdx.filter fun q=>cs.contains (q.2:Int)).map (·.1)
theorem FE(cs:List Int)(us:bW)(p:Int×bc):gy cs (us++[p])=gy cs us++if cs.contains (us.length:Int)then[p]else[]:=by
 unfold gy
 rw[List.zipIdx_append,filter_append,bZ]
 congr 1
 simp only[List.zipIdx_singleton,Nat.zero_add,oU,List.filter_nil]
 split<;>rfl
theorem uB(cs:List Int)(us:bW):(gy cs us).length≤us.length:=by
 unfold gy
 rw[bB]
 refine Nat.le_trans (List.length_filter_le ..) ?_
 rw[List.length_zipIdx];room
noncomputable def aE.jN(D:aE)(cs:List Int):aE:={aE.new D.aQ D.size with kept:=bS D.kept (gy cs D.bx),gN:=bS D.kept (gy cs D.bx)}
theorem fW:∀ {a c:Int} {n i:Nat} {v:LV} (h:(bL a c n)[i]?=some v),i<n∧v=.int (a+i*c):=by
 rintro a c n i v:(_)
 w_up
 unfold bL at h
 rw[List.getElem?_map]at h
 by_cases z:i<n
 ·rw[List.getElem?_range z]at h;cases h;exact⟨z,rfl⟩
 rw[List.getElem?_eq_none (by simp;exists z)]at h;cases h
theorem nM:∀ {aw:List LV} {i:Nat} {v:LV} (h:(cI aw)[i]?=some v),∃x,aw[i]?=some x∧v=.tup [.int i,x]:=by
 rintro aw i v:(_)
 w_up
 unfold cI at h
 rw[List.getElem?_map,List.getElem?_zipIdx]at h
 cases q:aw[i]? with
 |none=>nomatch q,h
 |some x=>rw[q]at h;simp at h;exact⟨x,rfl,h.symm⟩
theorem dj{f:α→LV}{l:List α}(h:(l.map f)[i]?=some v):∃x,l[i]?=some x∧v=f x:=by
 rw[List.getElem?_map]at h
 cases q:l[i]? with
 |none=>nomatch q,h
 |some x=>rw[q]at h;cases h;exact⟨x,rfl,rfl⟩
theorem iF{b:Addr}{c c':LO}(h:σ a=some (t,c))(k:σ b=some (u,c'))(z:t.1≠u.1):a≠b:=fun y=>by subst y;rw[h]at k;cases k;exact z rfl
theorem Dy{t:Sem Flow}{Q:LF→Loc→St→Prop}(I:Loc→St→Prop)(h:I ρ σ)(k:∀bt σ',I bt σ'→ST ep σ' bt X Q t):ST ep σ ρ X Q t:=k _ _ h
section
variable {G:Gd}{σ:St}{Q:LV→St→Prop}{ep:EP}{o o':Nat}{d:Addr}{D:aE}{P:Nat→Prop}
theorem Nh:∀ {cs:List Int} (pr:Pr G) (hD:bY σ o d D) (hP:P o') (hn:¬P o) (hb:1≤D.aQ) (ok:D.Ok 9000) (hc:∀x∈cs,0≤x∧x<D.bx.length) (hz:cs.length≤1000) (h:∀x σ',aF P σ σ'→bY σ' o' x (D.jN cs)→Q (.ref x) σ'),CallT 3 b0 (.ref 514) G σ Q [.ref d,.fl (cs.map .int)]:=by
 law_purse 0 =>
 revert G σ Q o o' d D P
 rintro G σ Q o o' d D P cs:(_)
 w_up
 obtain⟨dx,k,l,u,pk,pl,e1,e2,e3,e4⟩:=hD
 revert dx k l u pk pl e1 e2 e3 e4
 rintro dx k l u pk:(_)
 rintro pl:(_)
 intro e1 e2 e3 e4
 wtm_at "fnS b0|self chosen"
 rintro c aa:(_)
 intro F1 F2 F3 F4
 have hs:=ok.s0
 refine mP (oB ["found","places"] F4 F1 (by k_in) (by f_are) ?_)
 lk
 refine aT (I1 (P:=P) pr hb hs hP ?_) rfl
 rintro x ah:(_)
 intro hx ho sx
 lk
 refine mz (vs:=cs.map .int) (.inl (.inl rfl)) (by rw[bB];exists hz) (bu ?_)
 lk
 refine xC rfl ?_
 refine mq (x:="places") (v:=.fl (cs.map .int)) ?_
 replace e1:=ho.at e1 hn
 replace e2:=ho.at e2 hn
 replace e3:=ho.at e3 hn
 replace e4:=ho.at e4 hn
 have I2:=ok.m
 lk
 refine qY (t':=(o',1,0)) e2 ?_ fun k1 Wj hk1=>?_
 ·unfold aU;rw[bB];exists I2
 have Ni:o≠o':=fun z=>hn (z▸hP)
 obtain⟨mi,k',l',u',pk',pl',f1,f2,f3,f4⟩:=sx
 have n1:=neN f1 hk1
 have n2:=neN e1 hk1
 have n3:=neN e2 hk1
 have n4:=neN e3 hk1
 have n5:=neN e4 hk1
 lk
 have n6:=iF e1 f1 Ni
 have n7:=iF e4 f1 Ni
 refine Dy (fun aC ae=>aC "self"=some (.ref d)∧aC "found"=some (.ref x)∧aC "places"=some (.fl (cs.map .int))∧aF P σ ae∧ae d=some ((o,0,0),.inst 531 dx (tw D k l u))∧ae u=some ((o,3,0),.list (D.bx.map c7))∧
  ae x=some ((o',0,0),.inst 531 mi (tw {aE.new D.aQ D.size with kept:=D.kept} k1 l' u'))∧ae k1=some ((o',1,0),.dict (aU D.kept) Wj)∧ae u'=some ((o',3,0),.list [])) ?_ ?_
 ·refine⟨rfl,rfl,rfl,(ho.new hk1 hP).upd (by da_tab) hP hP,by da_tab,by da_tab,aI ..,by da_tab,?_⟩;have:=neN f4 hk1;have:=neT f1 f4 rfl
  da_tab
 clear n1 n2 n3 n4 n5 n6 n7 hk1 e1 e2 e3 e4 f1 f2 f3 f4 ho
 have hlen:(D.bx.map c7).length=D.bx.length:=bB ..
 rintro qq bz ⟨h1,h2,h3,ho,e1,e4,f1,f2,f4⟩:_
 refine gW F2 (by intro _;with_unfolding_all rfl) (tR rfl ?_)
 lk
 refine px (gV (fun i aC ae=>aC "self"=some (.ref d)∧aC "found"=some (.ref x)∧aC "places"=some (.fl (cs.map .int))∧ae=bz) ⟨h1,h2,h3,rfl⟩ ⟨?_,?_⟩)
 ·rintro its i v aC ae hv eI ⟨h1,h2,h3,h4⟩:_;subst h4;obtain⟨m,hm,rfl⟩:=dj hv;have hcm:=hc m (eF hm);refine cL ?_;lk
  ·(revert I2 hlen;kt_len)
  exact⟨trivial,h1,h2,h3,rfl⟩
 rintro aC _ - ⟨h1,h2,h3,rfl⟩:_
 lk
 refine gW F2 (by intro _;with_unfolding_all rfl) (FA pr F1 %[|0] rfl rfl (by f_are) ?_)
 lk
 refine Dl e4 (gV (fun i aC ae=>aC "self"=some (.ref d)∧aC "found"=some (.ref x)∧aC "places"=some (.fl (cs.map .int))∧∃kp,aF P σ ae∧
  ae x=some ((o',0,0),.inst 531 mi (tw {aE.new D.aQ D.size with kept:=D.kept} k1 l' u'))∧ae k1=some ((o',1,0),.dict (aU (bS D.kept (gy cs (D.bx.take i)))) kp)∧ae u'=some ((o',3,0),.list [])) ⟨h1,h2,h3,_,ho,f1,f2,f4⟩ ⟨?_,?_⟩)
 ·rintro its i v aC ae hv eI ⟨h1,h2,h3,kp,ho,f1,f2,f4⟩:_;obtain⟨w,hw,rfl⟩:=nM hv;obtain⟨⟨m,b⟩,hm,rfl⟩:=dj hw;unfold c7;lk;refine zJ (ns:=cs) (.inl (.inl rfl)) ?_;have n1:=(neT f1 f2 rfl);have n2:=(neT f2 f4 rfl)
  have hi:i=(D.bx.take i).length:=by
   have:i<D.bx.length:=by
    rcases Nat.lt_or_ge i D.bx.length with z|z
    ·exact z
    nomatch(List.getElem?_eq_none z),hm
   rw[iM];(have w0:=Ln.gm (i) (D.bx.length);revert this w0;room)
  have FF:=FE cs (D.bx.take i) (m,b);rw[← c8 hm,← hi]at FF;lk
  ·have h1:=kR (gy cs (D.bx.take i)) D.kept;have h2:=uB cs (D.bx.take i);rw[iM]at h2;unfold aU;rw[bB];(have w2:=Ln.gm i D.bx.length;revert I2 h1 h2 w2;kt_len)
  ·rename_i hc Wk;rw[bh hc]at FF;obtain⟨tu,eu⟩:=eI;have n3:k1≠u:=fun z=>by rw[← z,f2]at eu;cases eu
   refine⟨⟨tu,by da_tab⟩,by k_ne,by k_ne,by k_ne,Wk,ho.upd f2 hP hP,by da_tab,?_,by da_tab⟩;rw[aI,FF,pz,kn]
  rename_i hc;rw[aY (by rw[hc];decide),ng]at FF;refine⟨by assumption,by k_ne,by k_ne,by k_ne,kp,ho,f1,by rw[FF];exact f2,f4⟩
 rintro aC ae eI ⟨h1,h2,h3,kp,ho,f1,f2,f4⟩:_
 have Ae:(cI (D.bx.map c7)).length=D.bx.length:=by rw[gK,bB]
 rw[Ae,ib]at f2
 lk
 refine qY (t':=(o',2,0)) f2 ?_ fun l1 Wl cU=>?_
 ·have h1:=kR (gy cs D.bx) D.kept;have h2:=uB cs D.bx;unfold aU;rw[bB];exists I2,h1,h2
 have n1:=neN f1 cU
 have n2:=neN f2 cU
 have n3:=neN f4 cU
 have n4:=neT f1 f2 rfl
 have n5:=neT f1 f4 rfl
 lk
 exact h x _ ((ho.new cU hP).upd (by da_tab) hP hP) ⟨mi,k1,l1,u',kp,Wl,aI ..,by da_tab,by da_tab,by da_tab⟩
end
structure Row where
 n:Int
 a:Addr
 dx:Addr
 ba:Addr
 b:bc
 h:Int
 p:Int
 deriving Nonempty
noncomputable abbrev Af(R:Row):List (Str×LV):=[("number",.int R.n),("data",.ref R.ba),("holders",.int R.h),("pins",.int R.p)]
structure jG(σ:St)(q:Nat)(R:Row):Prop where
 a:σ R.a=some ((q,3,R.n),.inst 316 R.dx (Af R))
 b:σ R.ba=some ((q,4,R.n),.eM R.b)
noncomputable def Row.busy(R:Row):Bool:=!(R.h==0&&R.p==0)
section
variable {G:Gd}{σ:St}{Q:LV→St→Prop}{ep:EP}{q:Nat}{R:Row}{P:Nat→Prop}
theorem PM{x dx:Addr}{b:bc}(pr:Pr G)(e1:σ x=some ((q,3,n),.inst 316 dx []))(hP:P q)(hb:b.length≤1000)
 (h:∀σ' R,R.a=x→R.n=n→R.b=b→R.h=0→R.p=0→aF P σ σ'→jG σ' q R→(∀y,σ y≠none→y≠x→σ' y=σ y)→Q .none σ'):CallT 1 b0 (.ref 236) G σ Q [.ref x,.int n,.bX b]:=by
 wtm_at "fnK b0|self number octets"
 intro c aa F1 F2 F3
 lk
 refine CT (t:=(q,4,n)) %[|hb] fun ba Nj=>?_
 have n1:=neN (aI ..) Nj
 lk
 refine h _ ⟨n,x,dx,ba,b,0,0⟩ rfl rfl rfl rfl rfl ?_ ⟨aI ..,by da_tab⟩ fun y hy hx=>?_
 ·repeat' first
   |exact aF.refl P σ
   |exact hP
   |refine aF.new ?_ (by assumption) ?_
   |refine aF.upd ?_ (by da_tab) ?_ ?_
 have:y≠ba:=fun z=>by subst z;rw[av _ _ hx]at Nj;exact hy Nj
 simp only[av _ _ hx,av _ _ this]
theorem BF(pr:Pr G)(hB:jG σ q R)(hz:R.b.length≤1000)(h:Q (.bX R.b) σ):CallT 1 b0 (.ref 250) G σ Q [.ref R.a]:=by
 obtain⟨e1,e2⟩:=hB
 wtm_at "fnK b0|self"
 intro c aa F1 F2 F3
 lk
 ·exists hz
 exact h
theorem I3(pr:Pr G)(hB:jG σ q R)(h:Q (.bool (!R.busy)) σ):CallT 1 b0 (.ref 243) G σ Q [.ref R.a]:=by
 obtain⟨e1,e2⟩:=hB
 wtm_at "fnK b0|self"
 intro c aa F1 F2 F3
 unfold Row.busy at h
 rw[Bool.not_not]at h
 lk
 ·rename_i z;rw[z,Bool.true_and]at h;exact h
 rename_i z
 rw[z,Bool.false_and]at h
 rw[z];exact h
theorem PN{x:Int}(pr:Pr G)(hB:jG σ q R)(hz:R.b.length≤1000)(h0:0≤x)(h1:0≤n)(h2:x+n≤R.b.length)(h:Q .none σ):CallT 1 b0 (.ref 257) G σ Q [.ref R.a,.int x,.int n]:=by
 obtain⟨e1,e2⟩:=hB
 wtm_at "fnK b0|self place count"
 intro c aa F1 F2 F3
 lk
 ·exists hz
 exact h
theorem TZ{x:Int}{b:bc}(pr:Pr G)(hB:jG σ q R)(hz:R.b.length≤1000)(h0:0≤x)(h2:x+b.length≤R.b.length)(h:Q .none (upd σ R.ba ((q,4,R.n),.eM (d6 R.b b x.toNat)))):CallT 2 b0 (.ref 271) G σ Q [.ref R.a,.int x,.bX b]:=by
 have Wm:=hB
 obtain⟨e1,e2⟩:=hB
 wtm_at "fnK b0|self place octets"
 intro c aa F1 F2 F3
 lk
 ·exists hz,h0,h2
 refine aT (PN pr Wm hz h0 (by room) %[|h2] ?_) rfl
 lk
 ·exists hz,h0,h2
 refine vA (x:=some x) (y:=some (x+b.length)) (p:=x.toNat) (q:=x.toNat+b.length) e2 rfl rfl ?_ ?_ rfl %[|hz] %[hz,h0|h2] ?_
 ·show clipAt _ x=_;unfold clipAt;rw[aY %[|h0]];exact(Ln.clip _ _).trans (Nat.min_eq_left (by(have w0:=Ln.fT x;revert h2 w0;room)))
 ·show clipAt _ (x+b.length)=_;unfold clipAt;rw[aY %[|h0]];exact(Ln.clip _ _).trans ((Nat.min_eq_left (by(have w0:=Ln.fT (x+b.length);revert h2 w0;room))).trans (by(have w0:=Ln.fT (x+b.length);have w1:=Ln.fT x;revert h0 w0 w1;room)))
 lk
 exact h
theorem PO{b:bc}(pr:Pr G)(hB:jG σ q R)(hz:R.b.length≤1000)(h2:b.length=R.b.length)(h:Q .none (upd σ R.ba ((q,4,R.n),.eM b))):CallT 1 b0 (.ref 278) G σ Q [.ref R.a,.bX b]:=by
 obtain⟨e1,e2⟩:=hB
 wtm_at "fnK b0|self octets"
 intro c aa F1 F2 F3
 lk
 ·exists hz,h2
 ·exists hz
 refine vA (x:=none) (y:=none) (p:=0) (q:=b.length) e2 rfl rfl rfl h2.symm (by room) %[|hz] %[hz|h2] ?_
 have e:d6 R.b b 0=b:=by unfold d6;rw[take_zero,nil_append,Nat.zero_add,h2,List.drop_length,ng]
 rw[e]
 lk
 exact h
end
end Lake
end
section
namespace Lake
theorem I4{P P' R:α→Prop}(h:∃y,P y∧R y)(k:∀y,P y→R y→P' y):∃y,P' y∧R y:=h.elim fun y h=>⟨y,k y h.1 h.2,h.2⟩
open JL
theorem aE.Ok.mono{D:aE}{w w':Nat}(h:D.Ok w)(k:w≤w'):D.Ok w':=⟨h.s0,h.s1,Nat.le_trans h.m k,h.w0,h.f0,h.lb,h.kb,h.ub⟩
theorem aE.Ok.bk{D:aE}{w:Nat}(h:D.Ok w)(n:Int):((D.bk n).length:Int)=D.size:=by
 unfold aE.bk cq
 cases q:D.gN.find? fun e=>e.1=n with
 |none=>have:=h.s0;simp;(have w0:=Ln.fM (D.size) (0);revert this w0;room)
 |some e=>simpa using h.lb e (List.mem_of_find?_eq_some q)
theorem Ag{m:bW}{k:Int}{b:bc}{e:Int×bc}(h:e∈eB m k b):e∈m∨e=(k,b):=by
 unfold eB at h
 split at h
 ·obtain⟨x,hx,rfl⟩:=gB h;split
  ·rename_i z;exact .inr (by rw[← z])
  exact .inl hx
 rcases eG h with h|h
 ·exact .inl h
 exact .inr (by simpa using h)
theorem vT:∀ {l m:bW} {e:Int×bc},e∈bS m l→e∈m∨e∈l:=by
 intro ll
 induction ll with
 |nil =>
  rintro _ _ h;exact .inl h
 |cons p r ih =>
  rintro m e h;exact(ih h).elim (fun h=>(Ag h).elim .inl fun z=>.inr (by rw[z];exact gQ ..)) fun h=>.inr (gb _ h)
theorem HL{cs:List Int}{us:bW}{e:Int×bc}(h:e∈gy cs us):e∈us:=by
 unfold gy at h
 obtain⟨x,hx,rfl⟩:=gB h
 exact List.fst_mem_of_mem_zipIdx (mem_filter.mp hx).1
theorem aE.Ok.wr{D:aE}{w:Nat}(h:D.Ok w){b:bc}(hb:(b.length:Int)=D.size):(D.wr n b).Ok (w+3):=by
 refine⟨h.s0,h.s1,?_,?_,h.f0,fun e he=>?_,h.kb,fun e he=>?_⟩
 ·have q1:=h.m;have q2:=h.w0;have q3:=Ad D.gN n b;show(eB D.gN n b).length+D.kept.length+(D.bx++[(n,b)]).length+(D.writes+1).toNat+D.bj.toNat≤_;rw[dv,gH,length_nil];(have w0:=Ln.fT D.writes;have w1:=Ln.fT (D.writes+1);revert q1 q2 q3 w0 w1;kt_len)
 ·have:=h.w0;show 0≤D.writes+1;exists this
 ·exact(Ag he).elim (h.lb e) fun z=>by rw[z];exact hb
 exact(eG he).elim (h.ub e) fun z=>by rw[dE z];exact hb
theorem aE.Ok.fl{D:aE}{w:Nat}(h:D.Ok w):D.fl.Ok (w+1):=by
 refine⟨h.s0,h.s1,?_,h.w0,?_,h.lb,fun e he=>(vT he).elim (h.kb e) (h.ub e),fun e he=>by cases he⟩
 ·have q1:=h.m;have q2:=h.f0;have q3:=kR D.bx D.kept;show D.gN.length+(bS D.kept D.bx).length+0+D.writes.toNat+(D.bj+1).toNat≤_
  (have w0:=Ln.fT D.bj;have w1:=Ln.fT (D.bj+1);revert q1 q2 q3 w0 w1;kt_len)
 have:=h.f0;show 0≤D.bj+1;exists this
theorem aE.Ok.new{b s:Int}(h0:0<s)(h1:s≤1000):(aE.new b s).Ok 0:=⟨h0,h1,fg _,fh _,fh _,fun e he=>(by cases he),fun e he=>(by cases he),fun e he=>(by cases he)⟩
theorem aE.Ok.jN{D:aE}{w:Nat}(h:D.Ok w)(cs:List Int):(D.jN cs).Ok (2*w):=by
 have k:∀e∈bS D.kept (gy cs D.bx),(e.2.length:Int)=D.size:=fun e he=>(vT he).elim (h.kb e) fun z=>h.ub e (HL z)
 refine⟨h.s0,h.s1,?_,fh _,fh _,k,k,fun e he=>by cases he⟩
 have q1:=h.m;have q2:=kR (gy cs D.bx) D.kept;have q3:=uB cs D.bx
 show(bS D.kept (gy cs D.bx)).length+(bS D.kept (gy cs D.bx)).length+0+0+0≤_
 (revert q1 q2 q3;kt_len)
structure fj where
 a:Addr
 b:bc
 h:Int
 p:Int
 deriving Nonempty
noncomputable abbrev Act:=Int→Option fj
noncomputable def Row.ko(R:Row):fj:=⟨R.a,R.b,R.h,R.p⟩
noncomputable def gj(aJ:Act)(n:Int)(v:Option fj):Act:=fun k=>if k=n then v else aJ k
structure Dz(D:aE)(x:Row):Prop where
 n0:0≤x.n
 n1:x.n<D.aQ
 len:(x.b.length:Int)=D.size
 h0:0≤x.h
 p0:0≤x.p
 clean:x.busy=false→x.b=D.bk x.n
structure cW(bq:List Row)(D:aE)(ay:Int)(aJ:Act)(cnt:Nat):Prop where
 nd:(bq.map (·.n)).Nodup
 len:(bq.length:Int)≤ay
 cK:∀x∈bq,Dz D x
 aJ:∀k A,aJ k=some A↔∃x∈bq,x.n=k∧x.busy=true∧x.ko=A
 cnt:bq.countP (·.busy)=cnt
noncomputable def Row.pA(x:Row):Option fj:=if x.busy then some x.ko else none
theorem Row.kS{x:Row}(h:x.busy=true):x.pA=some x.ko:=by unfold Row.pA;rw[bh h]
theorem Row.vU{x:Row}(h:x.busy=false):x.pA=none:=by unfold Row.pA;rw[h];rfl
noncomputable def b1(b:Bool):Nat:=if b then 1 else 0
section
variable {bq l1 l2:List Row}{x x':Row}{D D':aE}{ay:Int}{aJ:Act}{cnt:Nat}
theorem cW.perm(h:cW bq D ay aJ cnt){qI:List Row}(p:bq.Perm qI):cW qI D ay aJ cnt:=
 ⟨(p.map _).nodup_iff.mp h.nd,by rw[← p.length_eq];exact h.len,fun x hx=>h.cK x (p.mem_iff.mpr hx),fun k A=>(h.aJ k A).trans ⟨fun bR=>by obtain⟨x,hx,r⟩:=bR;exact⟨x,p.mem_iff.mp hx,r⟩,fun bR=>by obtain⟨x,hx,r⟩:=bR;exact⟨x,p.mem_iff.mpr hx,r⟩⟩,by rw[← p.countP_eq];exact h.cnt⟩
theorem mr(h:((l1++x::l2).map (·.n)).Nodup):(∀y∈l1,y.n≠x.n)∧∀y∈l2,y.n≠x.n:=by
 rw[bZ,ew,lA]at h
 obtain⟨_,h2,h3⟩:=h
 rw[nodup_cons]at h2
 exact⟨fun y hy z=>h3 _ (i3 hy) _ (gQ ..) z,fun y hy z=>h2.1 (z▸i3 hy)⟩
theorem cW.set(h:cW (l1++x::l2) D ay aJ cnt)(hn:x'.n=x.n)(hk:Dz D x'){cnt':Nat}(hc:cnt'+b1 x.busy=cnt+b1 x'.busy):cW (l1++x'::l2) D ay (gj aJ x.n x'.pA) cnt':=by
 law_purse 0 =>
 revert h hn hk hc
 revert l1 l2 x x' D ay aJ cnt cnt'
 rintro l1 l2 x x' D ay aJ cnt cnt':(_)
 intro h hn hk hc
 obtain⟨m1,m2⟩:=mr h.nd
 refine⟨?_,?_,fun y hy=>?_,fun k A=>?_,?_⟩
 ·have:=h.nd;rw[bZ,ew]at this ⊢;rw[hn];exact this
 ·have:=h.len;simp only[dv,gH]at this ⊢;exact this
 ·rcases eG hy with hy|hy
  ·exact h.cK y (ik _ hy)
  rcases eb hy with e0|hy
  ·subst y;exact hk
  exact h.cK y (il _ (gb _ hy))
 ·unfold gj;by_cases z:k=x.n
  ·rw[bh z];constructor
   ·intro e;cases hb:x'.busy with
    |false=>nomatch(Row.vU hb),e
    |true=>rw[Row.kS hb]at e;cases e;exact⟨x',il _ (gQ ..),hn.trans z.symm,hb,rfl⟩
   rintro⟨y,hy,e1,e2,e3⟩:_;rcases eG hy with hy|hy
   ·exact absurd (e1.trans z) (m1 y hy)
   rcases eb hy with e0|hy
   ·subst y;rw[Row.kS e2,e3]
   exact absurd (e1.trans z) (m2 y hy)
  rw[aY z];refine(h.aJ k A).trans ⟨fun hq=>I4 hq fun y hy r=>?_,fun hq=>I4 hq fun y hy r=>?_⟩
  ·rcases eG hy with hy|hy
   ·exact ik _ hy
   rcases eb hy with e0|hy
   ·subst y;exact absurd r.1.symm z
   exact il _ (gb _ hy)
  rcases eG hy with hy|hy
  ·exact ik _ hy
  rcases eb hy with e0|hy
  ·subst y;exact absurd (hn▸r.1).symm z
  exact il _ (gb _ hy)
 have:=h.cnt
 simp only[countP_append,countP_cons]at this ⊢
 unfold b1 at hc
 exists hc,this
theorem cW.add:∀(h:cW bq D ay aJ cnt) (hn:∀y∈bq,y.n≠x.n) (hl:(bq.length:Int)<ay) (hk:Dz D x),cW (bq++[x]) D ay (gj aJ x.n x.pA) (cnt+b1 x.busy):=by
 revert bq x D ay aJ cnt
 rintro bq x D ay aJ:(_)
 rintro cnt:(_)
 w_up
 refine⟨?_,?_,fun y hy=>?_,fun k A=>?_,?_⟩
 ·rw[bZ,lA];refine⟨h.nd,by simp,fun a ha b hb z=>?_⟩;obtain⟨y,hy,rfl⟩:=gB ha;have:b=x.n:=dE hb;exact hn y hy (z.trans this)
 ·simp only[dv,gH,length_nil];exists hl
 ·rcases eG hy with hy|hy
  ·exact h.cK y hy
  have:y=x:=dE hy;exact this▸hk
 ·unfold gj;by_cases z:k=x.n
  ·rw[bh z];constructor
   ·intro e;cases hb:x.busy with
    |false=>nomatch(Row.vU hb),e
    |true=>rw[Row.kS hb]at e;cases e;exact⟨x,by simp,z.symm,hb,rfl⟩
   rintro⟨y,hy,e1,e2,e3⟩:_;rcases eG hy with hy|hy
   ·exact absurd (e1.trans z) (hn y hy)
   have:y=x:=dE hy;subst this;rw[Row.kS e2,e3]
  rw[aY z];refine(h.aJ k A).trans ⟨fun bR=>by obtain⟨y,hy,r⟩:=bR;exact⟨y,ik _ hy,r⟩,fun hq=>I4 hq fun y hy r=>?_⟩;rcases eG hy with hy|hy
  ·exact hy
  have:y=x:=dE hy;subst this;exact absurd r.1.symm z
 rw[countP_append,h.cnt]
 simp only[countP_cons,List.countP_nil,Nat.zero_add];rfl
theorem cW.erase(h:cW (l1++x::l2) D ay aJ cnt)(hb:x.busy=false):cW (l1++l2) D ay aJ cnt:=by
 have sub:(l1++l2).Sublist (l1++x::l2):=List.Sublist.append (.refl _) (List.sublist_cons_self ..)
 refine⟨(sub.map _).nodup h.nd,?_,fun y hy=>h.cK y (sub.mem hy),fun k A=>(h.aJ k A).trans ⟨fun hq=>I4 hq fun y hy r=>?_,fun bR=>by obtain⟨y,hy,r⟩:=bR;exact⟨y,sub.mem hy,r⟩⟩,?_⟩
 ·have:=h.len;simp only[dv,gH]at this ⊢;exists this
 ·rcases eG hy with hy|hy
  ·exact ik _ hy
  rcases eb hy with e0|hy
  ·subst y;rw[hb]at r;cases r.2.1
  exact il _ hy
 have:=h.cnt
 rw[countP_append,countP_cons,hb]at this
 rw[countP_append];simpa using this
theorem cW.Nk(h:cW bq D ay aJ cnt)(hb:D'.aQ=D.aQ)(hs:D'.size=D.size)(hl:∀y∈bq,y.busy=false→D'.bk y.n=D.bk y.n):cW bq D' ay aJ cnt:=
 ⟨h.nd,h.len,fun y hy=>have o:=h.cK y hy;⟨o.n0,by rw[hb];exact o.n1,by rw[hs];exact o.len,o.h0,o.p0,fun z=>by rw[hl y hy z];exact o.clean z⟩,h.aJ,h.cnt⟩
theorem cW.find(h:cW bq D ay aJ cnt){A:fj}(e:aJ n=some A):∃l1 x l2,bq=l1++x::l2∧x.n=n∧x.busy=true∧x.ko=A:=by
 obtain⟨x,hx,r⟩:=(h.aJ n A).mp e
 obtain⟨l1,l2,rfl⟩:=List.append_of_mem hx
 exact⟨l1,x,l2,rfl,r⟩
theorem cW.Nl(h:cW (l1++x::l2) D ay aJ cnt)(hb:x.busy=true):aJ x.n=some x.ko:=(h.aJ _ _).mpr ⟨x,by simp,rfl,hb,rfl⟩
theorem cW.HM(h:cW (l1++x::l2) D ay aJ cnt)(hb:x.busy=false):aJ x.n=none:=by
 cases hA:aJ x.n with
 |none=>rfl
 |some A =>
  obtain⟨y,hy,z1,z2,z3⟩:=(h.aJ _ _).mp hA;obtain⟨k1,k2⟩:=mr h.nd;rcases eG hy with hy|hy
  ·exact absurd z1 (k1 y hy)
  rcases eb hy with e0|hy
  ·subst y;nomatch hb,z2
  exact absurd z1 (k2 y hy)
theorem cW.FG(h:cW bq D ay aJ cnt)(hx:∀y∈bq,y.n≠n):aJ n=none:=by
 cases hA:aJ n with
 |none=>rfl
 |some A =>
  obtain⟨y,hy,z1,z2,z3⟩:=(h.aJ _ _).mp hA;exact absurd z1 (hx y hy)
theorem cW.FH(h:cW bq D ay aJ cnt)(hl:(bq.length:Int)=ay)(hc:(cnt:Int)<ay):∃l1 x l2,bq=l1++x::l2∧x.busy=false∧∀y∈l1,y.busy=true:=by
 have:∀bq:List Row,bq.countP (·.busy)<bq.length→∃l1 x l2,bq=l1++x::l2∧x.busy=false∧∀y∈l1,y.busy=true:=by
  intro bq
  induction bq with
  |nil=>intro z;simp at z
  |cons y r ih =>
   intro z;cases hb:y.busy with
   |false=>exact⟨[],y,r,rfl,hb,by simp⟩
   |true =>
    rw[countP_cons,hb]at z;obtain⟨l1,x,l2,rfl,h1,h2⟩:=ih (by simp at z;exact z);exact⟨y::l1,x,l2,rfl,h1,fun w hw=>(eb hw).elim (fun q=>q▸hb) (h2 w)⟩
 exact this bq (by rw[h.cnt];exists hl,hc)
end
theorem cW.BG{l1 l2:List Row}{x:Row}{D:aE}{aJ:Act}(h:cW (l1++x::l2) D ay aJ cnt)(hb:x.busy=true):1≤cnt:=by have:=h.cnt;rw[countP_append,countP_cons,hb]at this;simp at this;exists this
noncomputable def mB(A:fj):Option fj:=if A.h=1∧A.p=0 then none else some {A with h:=A.h-1}
noncomputable def sy(A:fj):Option fj:=if A.h=0∧A.p=1 then none else some {A with p:=A.p-1}
theorem BH{x:Row}{o:Option fj}(h:x.busy=false→o=none)(k:x.busy=true→o=some x.ko):x.pA=o:=by
 cases hb:x.busy with
 |false=>rw[Row.vU hb,h hb]
 |true=>rw[Row.kS hb,k hb]
theorem sE{x:Row}:x.busy=false↔x.h=0∧x.p=0:=by unfold Row.busy;simp
theorem vV{x:Row}:x.busy=true↔¬(x.h=0∧x.p=0):=by rw[← sE];simp
theorem FI{x:Row}:b1 x.pA.isSome=b1 x.busy:=by
 cases hb:x.busy with
 |false=>rw[Row.vU hb];rfl
 |true=>rw[Row.kS hb];rfl
theorem js:∀(m:bW) (k n:Int) (b:bc),cq (eB m k b) n=if n=k then some b else cq m n:=by
 rintro m k n:(_)
 rintro b:(_)
 unfold cq eB
 split
 ·rename_i z;rw[List.find?_map]
  have e:((fun e:Int×bc=>decide (e.1=n))∘fun e=>if e.1=k then(e.1,b)else e)=fun e=>decide (e.1=n):=funext fun e=>by
   show decide ((if e.1=k then(e.1,b)else e).1=n)=_;split<;>rfl
  rw[e];by_cases q:n=k
  ·subst q;rw[bh rfl];cases f:m.find? fun e=>decide (e.1=n)with
   |none =>
    obtain⟨e,he,z⟩:=any_eq_true.mp z;exact absurd z (by simpa using List.find?_eq_none.mp f e he)
   |some e =>
    have:e.1=n:=(by simpa using List.find?_some f);simp[this]
  rw[aY q];cases f:m.find? fun e=>decide (e.1=n)with
  |none=>rfl
  |some e =>
   have:e.1=n:=(by simpa using List.find?_some f);have:e.1≠k:=fun y=>q (this.symm.trans y);simp[this]
 rename_i z
 rw[List.find?_append]
 by_cases q:n=k
 ·subst q;rw[bh rfl];have:m.find? (fun e=>decide (e.1=n))=none:=List.find?_eq_none.mpr fun e he y=>z (any_eq_true.mpr ⟨e,he,y⟩);rw[this];simp
 rw[aY q]
 have:[(k,b)].find? (fun e:Int×bc=>decide (e.1=n))=none:=by simp;exact fun y=>q y.symm
 rw[this,Option.or_none]
theorem aE.pV(D:aE)(k n:Int)(b:bc):(D.wr k b).bk n=if n=k then b else D.bk n:=by
 unfold aE.bk
 show(cq (eB D.gN k b) n).getD _=_
 rw[js]
 split<;>rfl
theorem wX(aJ:Act)(n:Int)(v w:Option fj):gj (gj aJ n v) n w=gj aJ n w:=funext fun k=>by unfold gj;split<;>rfl
theorem nN(aJ:Act)(n:Int):gj aJ n (aJ n)=aJ:=funext fun k=>by unfold gj;split<;>simp_all
theorem j7(aJ:Act)(n:Int)(v:Option fj):gj aJ n v n=v:=by unfold gj;rw[bh rfl]
noncomputable abbrev nO(r bn:Addr)(m1 m2 m3:Int)(ay:Int)(d:Addr)(size:Int):List (Str×LV):=[("disk",.ref d),("most",.int ay),("size",.int size),("row",.ref r),("by_number",.ref bn),("hits",.int m1),("reads",.int m2),("writes",.int m3)]
noncomputable def kT(x:Row):Int×LV:=(x.n,.ref x.a)
noncomputable def gz(x:Row):LV:=.ref x.a
structure cw(dx r bn:Addr)(m3 m1 m2:Int)(es:List (Int×LV))(dp:Nat)(bq:List Row)(q:Nat)(c d:Addr)(ay:Int)(σ:St)(size:Int):Prop where
 c:σ c=some ((q,0,0),.inst 433 dx (nO r bn m1 m2 m3 ay d size))
 r:σ r=some ((q,1,0),.list (bq.map gz))
 n:σ bn=some ((q,2,0),.dict es dp)
 es:es.Perm (bq.map kT)
 b:∀x∈bq,jG σ q x
section
variable {σ:St}{q:Nat}{c d:Addr}{ay size:Int}{bq l1 l2:List Row}{x x':Row}{dx r bn:Addr}{m1 m2 m3:Int}{es:List (Int×LV)}{dp:Nat}{P:Nat→Prop}
theorem cw.agree(h:cw dx r bn m3 m1 m2 es dp bq q c d ay σ size)(k:∀a t ob,t.1=q→σ a=some (t,ob)→σ' a=some (t,ob)):cw dx r bn m3 m1 m2 es dp bq q c d ay σ' size:=
 ⟨k _ _ _ rfl h.c,k _ _ _ rfl h.r,k _ _ _ rfl h.n,h.es,fun x hx=>⟨k _ _ _ rfl (h.b x hx).a,k _ _ _ rfl (h.b x hx).b⟩⟩
theorem cw.only{σ:St}{q:Nat}{c d:Addr}{ay:Int}{bq:List Row}{dx r bn:Addr}{m1 m2 m3:Int}{es:List (Int×LV)}{dp:Nat}{size:Int}{P:Nat→Prop}(h:cw dx r bn m3 m1 m2 es dp bq q c d ay σ size)(k:aF P σ σ')(hq:¬P q):cw dx r bn m3 m1 m2 es dp bq q c d ay σ' size:=
 h.agree fun _ _ _ e z=>k.at z (by rw[e];exact hq)
theorem DA{b:Addr}{o:LO}(h:σ a=some (t,o))(h':σ b=some (u,o'))(z:t.2.2≠u.2.2):a≠b:=fun y=>by
 subst y;rw[h]at h';cases h';exact z rfl
theorem cw.oZ{q:Nat}{c d:Addr}{ay size:Int}{dx r bn:Addr}{m3:Int}{σ:St}{l1 l2:List Row}{x x':Row}{m1 m2:Int}{es:List (Int×LV)}{dp:Nat}(h:cw dx r bn m3 m1 m2 es dp (l1++x::l2) q c d ay σ size)(nd:((l1++x::l2).map (·.n)).Nodup)(e1:x'.n=x.n)(e2:x'.a=x.a)(e3:x'.dx=x.dx)(e4:x'.ba=x.ba)(e5:x'.b=x.b) :
  cw dx r bn m3 m1 m2 es dp (l1++x'::l2) q c d ay (upd σ x.a ((q,3,x.n),.inst 316 x.dx (Af x'))) size:=by
 have hx:=h.b x de
 obtain⟨k1,k2⟩:=mr nd
 have eE:(l1++x'::l2).map kT=(l1++x::l2).map kT:=by rw[bZ,bZ,ew,ew];unfold kT;rw[e1,e2]
 have eA:(l1++x'::l2).map gz=(l1++x::l2).map gz:=by rw[bZ,bZ,ew,ew];unfold gz;rw[e2]
 have xH:∀y∈l1++x::l2,y.n≠x.n→jG (upd σ x.a ((q,3,x.n),.inst 316 x.dx (Af x'))) q y:=fun y hy hn=>⟨(av _ _ (DA (h.b y hy).a hx.a hn)).trans (h.b y hy).a,(av _ _ (neT (h.b y hy).b hx.a rfl)).trans (h.b y hy).b⟩
 refine⟨(av _ _ (neT h.c hx.a rfl)).trans h.c,?_,(av _ _ (neT h.n hx.a rfl)).trans h.n,by rw[eE];exact h.es,fun y hy=>?_⟩
 ·rw[eA];exact(av _ _ (neT h.r hx.a rfl)).trans h.r
 rcases eG hy with hy|hy
 ·exact xH y (ik _ hy) (k1 y hy)
 rcases eb hy with e0|hy
 ·subst y;exact⟨by rw[e2,e1,e3];exact aI ..,by rw[e4,e1,e5];exact(av _ _ (neT hx.b hx.a rfl)).trans hx.b⟩
 exact xH y (il _ (gb _ hy)) (k2 y hy)
theorem cw.setB(h:cw dx r bn m3 m1 m2 es dp (l1++x::l2) q c d ay σ size)(nd:((l1++x::l2).map (·.n)).Nodup)(b':bc) :
  cw dx r bn m3 m1 m2 es dp (l1++{x with b:=b'}::l2) q c d ay (upd σ x.ba ((q,4,x.n),.eM b')) size:=by
 have hx:=h.b x de
 obtain⟨k1,k2⟩:=mr nd
 have eE:(l1++{x with b:=b'}::l2).map kT=(l1++x::l2).map kT:=by rw[bZ,bZ,ew,ew];rfl
 have eA:(l1++{x with b:=b'}::l2).map gz=(l1++x::l2).map gz:=by rw[bZ,bZ,ew,ew];rfl
 have xH:∀y∈l1++x::l2,y.n≠x.n→jG (upd σ x.ba ((q,4,x.n),.eM b')) q y:=fun y hy hn=>⟨(av _ _ (neT (h.b y hy).a hx.b rfl)).trans (h.b y hy).a,(av _ _ (DA (h.b y hy).b hx.b hn)).trans (h.b y hy).b⟩
 refine⟨(av _ _ (neT h.c hx.b rfl)).trans h.c,?_,(av _ _ (neT h.n hx.b rfl)).trans h.n,by rw[eE];exact h.es,fun y hy=>?_⟩
 ·rw[eA];exact(av _ _ (neT h.r hx.b rfl)).trans h.r
 rcases eG hy with hy|hy
 ·exact xH y (ik _ hy) (k1 y hy)
 rcases eb hy with e0|hy
 ·subst y;exact⟨(av _ _ (neT hx.a hx.b rfl)).trans hx.a,aI ..⟩
 exact xH y (il _ (gb _ hy)) (k2 y hy)
theorem cw.tx{ob:LO}{c':Tag×LO}(h:∀x∈bq,jG σ q x)(e:σ a=some (t,ob))(z:(t.2.1==3||t.2.1==4)=false):∀x∈bq,jG (upd σ a c') q x:=fun x hx =>
 ⟨(av _ _ fun y=>by have:=(h x hx).a;rw[y,e]at this;cases this;simp at z).trans (h x hx).a,(av _ _ fun y=>by have:=(h x hx).b;rw[y,e]at this;cases this;simp at z).trans (h x hx).b⟩
theorem cw.setC{q:Nat}{c d:Addr}{ay size:Int}{dx r bn:Addr}{m1 m2 m3:Int}{σ:St}{bq:List Row}{es:List (Int×LV)}{dp:Nat}(h:cw dx r bn m3 m1 m2 es dp bq q c d ay σ size)(Rb Rc Rd:Int):cw dx r bn Rd Rb Rc es dp bq q c d ay (upd σ c ((q,0,0),.inst 433 dx (nO r bn Rb Rc Rd ay d size))) size:=
 ⟨aI ..,(av _ _ (neT h.r h.c rfl)).trans h.r,(av _ _ (neT h.n h.c rfl)).trans h.n,h.es,cw.tx h.b h.c rfl⟩
theorem cw.add{dp':Nat}(h:cw dx r bn m3 m1 m2 es dp bq q c d ay σ size)(hx:∀y∈bq,y.n≠x.n)(hb:jG σ q x) :
  cw dx r bn m3 m1 m2 (f9 es x.n (.ref x.a)) dp' (bq++[x]) q c d ay (upd (upd σ bn ((q,2,0),.dict (f9 es x.n (.ref x.a)) dp')) r ((q,1,0),.list (bq.map gz++[.ref x.a]))) size:=by
 have n1:=neT h.c h.n rfl
 have n2:=neT h.c h.r rfl
 have n3:=neT h.n h.r rfl
 have hr:upd σ bn ((q,2,0),.dict (f9 es x.n (.ref x.a)) dp') r=_:=(av _ _ n3.symm).trans h.r
 have hP:f9 es x.n (.ref x.a)=es++[kT x]:=by
  unfold f9;rw[aY]
  ·rfl
  rw[any_eq_true];rintro⟨e,he,z⟩:_;obtain⟨y,hy,rfl⟩:=gB (h.es.mem_iff.mp he);exact hx y hy (lu z)
 refine⟨(av _ _ n2).trans ((av _ _ n1).trans h.c),by rw[aI,bZ];rfl,(av _ _ n3).trans (aI ..),?_,?_⟩
 ·rw[hP,bZ];exact h.es.append_right _
 refine cw.tx (cw.tx (fun y hy=>?_) h.n rfl) hr rfl
 rcases eG hy with hy|hy
 ·exact h.b y hy
 have:y=x:=dE hy
 subst this;exact hb
theorem tB(σ:St)(a:Addr)(c c':Tag×LO):upd (upd σ a c) a c'=upd σ a c':=funext fun b=>by unfold upd;split<;>rfl
theorem HN(l1 l2:List Row)(x:Row):((l1++x::l2).map gz).eraseIdx l1.length=(l1++l2).map gz:=by rw[bZ,ew,List.eraseIdx_append_of_length_le (by simp),bZ];simp
theorem Nm(l1 l2:List Row)(x:Row):((l1++x::l2).map gz)[l1.length]?=some (.ref x.a):=by rw[List.getElem?_map,List.getElem?_append_right (fg _),Nat.sub_self];rfl
theorem Bj{m:Nat}(h:∀y∈l1++x::l2,jG σ q y)(nd:((l1++x::l2).map (·.n)).Nodup)(hm:m<l1.length)(hv:((l1++x::l2).map gz)[m]?=some v):v≠.ref x.a∧E8 σ 316 v:=by
 obtain⟨y,hy,rfl⟩:=dj hv
 rw[List.getElem?_append_left hm]at hy
 have hy:=eF hy
 have f:=h y (ik _ hy)
 refine⟨fun z=>?_,_,_,_,_,rfl,f.a⟩
 have z:y.a=x.a:=by unfold gz at z;injection z
 exact DA f.a (h x de).a ((mr nd).1 y hy) z
theorem cw.Wn(h:cw dx r bn m3 m1 m2 es dp (l1++x::l2) q c d ay σ size):cw dx r bn m3 m1 m2 es dp (l1++l2++[x]) q c d ay (upd σ r ((q,1,0),.list ((l1++l2).map gz++[.ref x.a]))) size:=by
 have p:(l1++x::l2).Perm (l1++l2++[x]):=List.perm_middle.trans (List.perm_append_comm (l₁:=[x]))
 refine⟨(av _ _ (neT h.c h.r rfl)).trans h.c,by rw[aI,bZ (l₁:=l1++l2)];rfl,(av _ _ (neT h.n h.r rfl)).trans h.n,h.es.trans (p.map _),?_⟩
 exact cw.tx (fun y hy=>h.b y (p.mem_iff.mpr hy)) h.r rfl
theorem bY.agree{σ:St}{o:Nat}{d:Addr}{D:aE}(h:bY σ o d D)(k:∀a t ob,t.1=o→σ a=some (t,ob)→σ' a=some (t,ob)):bY σ' o d D:=by
 obtain⟨dx,k',l,u,pk,pl,e1,e2,e3,e4⟩:=h
 exact⟨dx,k',l,u,pk,pl,k _ _ _ rfl e1,k _ _ _ rfl e2,k _ _ _ rfl e3,k _ _ _ rfl e4⟩
theorem bY.only{σ:St}{o:Nat}{d:Addr}{D:aE}(h:bY σ o d D)(k:aF P σ σ')(ho:¬P o):bY σ' o d D:=h.agree fun _ _ _ e z=>k.at z (by rw[e];exact ho)
theorem bY.upd{o:Nat}{d:Addr}{D:aE}{σ:St}{ob:LO}{c:Tag×LO}(h:bY σ o d D)(e:σ a=some (t,ob))(ht:t.1≠o):bY (upd σ a c) o d D:=h.agree fun b u x z k=>(av _ _ fun y=>by subst y;rw[e]at k;cases k;exact ht z).trans k
theorem bY.new{σ:St}{o:Nat}{d:Addr}{D:aE}{c:Tag×LO}(h:bY σ o d D)(e:σ a=none):bY (Lake.upd σ a c) o d D:=h.agree fun b u x z k=>(av _ _ fun y=>by subst y;nomatch e,k).trans k
theorem oF{es:List (Int×LV)}(p:es.Perm mh)(nd:(mh.map (·.1)).Nodup){k:Int}(h:(k,v)∈mh):c6 es k=some v:=by
 have h1:(k,v)∈es:=p.mem_iff.mpr h
 have Nn:(es.map (·.1)).Nodup:=(p.map _).nodup_iff.mpr nd
 clear p h nd
 unfold c6
 induction es with
 |nil=>cases h1
 |cons e r ih =>
  rw[ew,nodup_cons]at Nn;rcases eb h1 with h1|h1
  ·subst h1;simp
  have:e.1≠k:=fun z=>Nn.1 (z▸i3 (f:=(·.1)) h1);rw[List.find?_cons];simp only[this,decide_false];exact ih h1 Nn.2
theorem FJ{es:List (Int×LV)}{k:Int}(h:∀e∈es,e.1≠k):c6 es k=none:=by
 unfold c6
 rw[List.find?_eq_none.mpr fun e he=>by simpa using h e he];rfl
end
open JL
inductive PQ(σ:St)(q:Nat)(c d:Addr)(ay:Int)(D:aE)(aJ:Act)(cnt:Nat):Prop where
 |mk (bq:List Row) (dx r bn:Addr) (m1 m2 m3:Int) (es:List (Int×LV)) (dp:Nat) (C:cw dx r bn m3 m1 m2 es dp bq q c d ay σ D.size) (R:cW bq D ay aJ cnt)
noncomputable def aS(o q:Nat)(ay:Int)(c d:Addr)(w:Nat)(D:aE)(σ:St)(cnt:Nat)(aJ:Act):Prop:=
 o≠q∧ay≤1000∧D.Ok w∧bY σ o d D∧PQ σ q c d ay D aJ cnt
section
variable {σ:St}{q:Nat}{c d:Addr}{ay size:Int}{bq l1 l2:List Row}{x x':Row}{dx r bn:Addr}{m1 m2 m3:Int}{es:List (Int×LV)}{dp:Nat}{P:Nat→Prop}
theorem cw.nd(C:cw dx r bn m3 m1 m2 es dp bq q c d ay σ size)(nd:(bq.map (·.n)).Nodup):((bq.map kT).map (·.1)).Nodup:=by rw[ey];exact nd
theorem cw.bk(C:cw dx r bn m3 m1 m2 es dp bq q c d ay σ size)(nd:(bq.map (·.n)).Nodup)(hx:x∈bq):c6 es x.n=some (.ref x.a):=
 oF C.es (C.nd nd) (i3 (f:=kT) hx)
theorem cw.PR(C:cw dx r bn m3 m1 m2 es dp bq q c d ay σ size)(hx:∀y∈bq,y.n≠n):c6 es n=none:=by
 refine FJ fun e he=>?_
 obtain⟨y,hy,rfl⟩:=gB (C.es.mem_iff.mp he)
 exact hx y hy
theorem cw.Np(C:cw dx r bn m3 m1 m2 es dp bq q c d ay σ size):es.length=bq.length:=by rw[C.es.length_eq,bB]
theorem DB(p:es.Perm ((l1++x::l2).map kT))(nd:((l1++x::l2).map (·.n)).Nodup):(wI es x.n).Perm ((l1++l2).map kT):=by
 obtain⟨k1,k2⟩:=mr nd
 refine(p.filter fun e=>decide (e.1≠x.n)).trans ?_
 have f:∀l:List Row,(∀y∈l,y.n≠x.n)→(l.map kT).filter (fun e=>decide (e.1≠x.n))=l.map kT:=fun l h=>List.filter_eq_self.mpr fun e he=>by
  obtain⟨y,hy,rfl⟩:=gB he;exact ia (h y hy)
 rw[bZ,ew,filter_append,oU,f l1 k1,f l2 k2,bZ]
 have:decide ((kT x).1≠x.n)=false:=jx fun z=>z rfl
 rw[this];exact .refl _
theorem Nq:∀(bq:List Row) (n:Int),(∃l1 x l2,bq=l1++x::l2∧x.n=n)∨∀y∈bq,y.n≠n:=by
 rintro bq n:(_)
 by_cases h:∃x∈bq,x.n=n
 ·obtain⟨x,hx,e⟩:=h;obtain⟨l1,l2,rfl⟩:=List.append_of_mem hx;exact .inl ⟨l1,x,l2,rfl,e⟩
 exact .inr fun y hy e=>h ⟨y,hy,e⟩
end
section
variable {G:Gd}{σ:St}{Q:LV→St→Prop}{ep:EP}{o q:Nat}{c d:Addr}{ay:Int}{D:aE}{aJ:Act}{cnt w:Nat}{P:Nat→Prop}
theorem vW:∀ {n:Int} (pr:Pr G) (hC:aS o q ay c d w D σ cnt aJ) (h0:0≤n) (h1:n<D.aQ) (h:Q .none σ),CallT 1 b0 (.ref 341) G σ Q [.ref c,.int n]:=by
 revert G σ Q o q c d ay D aJ cnt w
 rintro G σ Q o q c d ay D aJ cnt w:(_)
 rintro n:(_)
 w_up
 obtain⟨-,-,ok,⟨mi,k,l,u,pk,pl,f1,f2,f3,f4⟩,bq,dx,r,bn,m1,m2,m3,es,dp,C,R⟩:=hC
 have e1:=C.c
 wtm_at "fnK b0|self number"
 rintro cx aa:(_)
 intro F1 F2 F3
 lk
 exact h
theorem oG{A:fj}(pr:Pr G)(hC:aS o q ay c d w D σ cnt aJ)(hA:aJ n=some A)(hh:0<A.h)(h:Q .none σ):CallT 1 b0 (.ref 348) G σ Q [.ref c,.ref A.a]:=by
 obtain⟨-,-,ok,hD,bq,dx,r,bn,m1,m2,m3,es,dp,C,R⟩:=hC
 obtain⟨l1,x,l2,rfl,rfl,hb,rfl⟩:=R.find hA
 have hg:=C.bk R.nd (x:=x) de
 obtain⟨f1,f2⟩:=C.b x de
 have e1:=C.c
 have e3:=C.n
 have Wo:0<x.h:=hh
 wtm_at "fnK b0|self buffer"
 intro cx aa F1 F2 F3
 unfold Row.ko
 lk
 exact h
theorem PS:∀ {bq:List Row} {dx r bn:Addr} {m1 m2 m3:Int} {es:List (Int×LV)} {dp:Nat} (pr:Pr G) (hm:ay≤1000) (C:cw dx r bn m3 m1 m2 es dp bq q c d ay σ D.size) (R:cW bq D ay aJ cnt) (hP:P q) (hc:(cnt:Int)<ay) (h:∀σ' qI mh dp',aF P σ σ'→(∀y∈qI,y∈bq)→cw dx r bn m3 m1 m2 mh dp' qI q c d ay σ' D.size→cW qI D ay aJ cnt→(qI.length:Int)<ay→Q .none σ'),CallT 2 b0 (.ref 362) G σ Q [.ref c]:=by
 law_purse 0 =>
 revert G σ Q q c d ay D aJ cnt P
 rintro G σ Q q c d ay D aJ cnt P bq dx r bn m1 m2 m3 es dp:(_)
 w_up
 have e1:=C.c
 have e2:=C.r
 have e3:=C.n
 have hl:=R.len
 have hle:=C.Np
 have I5:(bq.map gz).length=bq.length:=bB ..
 wtm_at "fnK b0|self"
 rintro cx aa:(_)
 intro F1 F2 F3
 lk
 ·exists hm,hl,I5
 ·rename_i z;have z:((bq.map gz).length:Int)<ay:=lu z;exact h σ bq es dp (aF.refl P σ) (fun _ z=>z) C R %[I5|z]
 rename_i z
 have z:¬((bq.map gz).length:Int)<ay:=of_decide_eq_false z
 refine Lake.ex1 (R.FH %[hl,I5|z] hc) ?_
 rintro l1:(_)
 rintro⟨x,l2,rfl,hb,Wq⟩:_
 have hL:(cI ((l1++x::l2).map gz)).length=l1.length+(l2.length+1):=by unfold cI;simp
 refine gW F2 (by intro _;with_unfolding_all rfl) (FA pr F1 %[|0] rfl rfl (by f_are) ?_)
 lk
 refine Dl e2 (gV (fun i aC ae=>aC "self"=some (.ref c)∧σ=ae∧i≤l1.length) ⟨rfl,rfl,lB _⟩ ⟨?_,?_⟩)
 ·rintro its i v aC ae hv eI ⟨h1,rfl,h3⟩:_;obtain⟨w,hw,rfl⟩:=nM hv;obtain⟨y,hy,rfl⟩:=dj hw;have hB:=C.b y (eF hy);have f1:=hB.a;unfold gz;lk;refine aT (I3 pr hB ?_) rfl;rcases Nat.lt_or_ge i l1.length with q1|q1
  ·rw[List.getElem?_append_left q1]at hy;rw[Wq y (eF hy)];lk;exact⟨eI,by k_ne,rfl,q1⟩
  have q2:i=l1.length:=by exists h3,q1
  subst q2;rw[List.getElem?_append_right q1,Nat.sub_self]at hy;cases hy;rw[hb];have n1:=neT e1 e2 rfl;have n2:=neT e1 e3 rfl;have n3:=neT e2 e3 rfl;have n4:=neT e2 hB.a rfl;have n5:=neT e3 hB.a rfl;lk;refine Ki e3 %[hm,hl|hle] (by rw[show c6 es x.n=_ from C.bk R.nd (x:=x) de];rfl) fun dp'=>?_;lk;refine Kg ((av _ _ n3).trans e2) (by room) ?_ %[hm,hl|I5] ?_
  ·show(l1.length:Int)<(((l1++x::l2).map gz).length:Nat);simp;room
  lk;refine h _ (l1++l2) (wI es x.n) dp' (((aF.refl P σ).upd e3 hP hP).upd ((av _ _ n3).trans e2) hP hP) (fun y hy=>?_) ⟨by da_tab,?_,by da_tab,?_,?_⟩ (R.erase hb) ?_
  ·rcases eG hy with hy|hy
   ·exact ik _ hy
   exact il _ (gb _ hy)
  ·rw[aI];congr 3;show((l1++x::l2).map gz).eraseIdx (l1.length:Int).toNat=_;rw[rB,bZ,ew,List.eraseIdx_append_of_length_le (by simp),bZ];simp
  ·exact DB C.es R.nd
  ·have:=cw.tx (σ:=σ) (c':=((q,2,0),.dict (wI es x.n) dp')) (fun y hy=>C.b y hy) e3 rfl;have:=cw.tx (c':=((q,1,0),.list (((l1++x::l2).map gz).eraseIdx (l1.length:Int).toNat))) this ((av _ _ n3).trans e2) rfl;intro y hy;refine this y ?_;rcases eG hy with hy|hy
   ·exact ik _ hy
   exact il _ (gb _ hy)
  simp only[dv,gH]at hl ⊢;exists hl
 rintro aC ae - ⟨-,-,q⟩:_
 rw[hL]at q;(exfalso;revert q;room)
theorem PT{b:bc}(pr:Pr G)(hP:P q)(hb:b.length≤1000)
 (h:∀x σ' R,σ x=none→R.a=x→R.n=n→R.b=b→R.h=0→R.p=0→aF P σ σ'→jG σ' q R→(∀y,σ y≠none→σ' y=σ y)→Q (.ref x) σ'):CallT 2 b0 (.ref 316) G σ Q [.int n,.bX b]:=by
 refine CallT.make (t:=(q,3,n)) (t':=(q,5,n)) (fI:=236) (by rw[pr.K];k_in) (by rw[pr.K];k_in) (by rw[pr.K];k_in) fun x dx hx pU ne=>PM (P:=P) pr (aI ..) hP hb fun σ' R h1 h2 h3 h4 h5 h6 h7 h8=>⟨rfl,h x σ' R hx h1 h2 h3 h4 h5 (.trans (.new (.new (.refl P σ) pU hP) ?_ hP) h6) h7 fun y hy=>?_⟩
 ·rw[av _ _ ne];exact hx
 have n1:y≠x:=fun z=>hy (z▸hx)
 have n2:y≠dx:=fun z=>hy (z▸pU)
 have e:upd (upd σ dx ((q,5,n),.dK x)) x ((q,3,n),.inst 316 dx []) y=σ y:=by rw[av _ _ n1,av _ _ n2]
 rw[h8 y (by rw[e];exact hy) n1,e]
theorem DC:∀ {n:Int} (pr:Pr G) (hC:aS o q ay c d w D σ cnt aJ) (hP:P q) (hw:w≤8000) (hd:D.cj=false) (h0:0≤n) (h1:n<D.aQ) (hr:aJ n=none→(cnt:Int)<ay) (h:∀σ' a b hh p cnt',(aJ n=some ⟨a,b,hh,p⟩∧cnt'=cnt∨aJ n=none∧b=D.bk n∧hh=0∧p=0∧cnt'=cnt+1)→0≤hh→aF P σ σ'→aS o q ay c d w D σ' cnt' (gj aJ n (some ⟨a,b,hh+1,p⟩))→Q (.ref a) σ'),CallT 3 b0 (.ref 355) G σ Q [.ref c,.int n]:=by
 law_purse 0 =>
 revert G σ Q o q c d ay D aJ cnt w P
 rintro G σ Q o q c d ay D aJ cnt w:(_)
 rintro P n:(_)
 w_up
 have vF:=hC
 obtain⟨bF,hm,ok,hD,bq,dx,r,bn,m1,m2,m3,es,dp,C,R⟩:=hC
 revert bF hm ok hD bq dx r bn m1 m2 m3 es dp C R
 intro bF hm ok hD
 rintro bq dx r bn m1 m2 m3 es dp:(_)
 intro C R
 have e1:=C.c
 have e3:=C.n
 have n2:=neT e1 e3 rfl
 wtm_at "fnK b0|self number"
 rintro cx aa:(_)
 intro F1 F2 F3
 lk
 refine aT (vW pr vF h0 h1 ?_) rfl
 lk
 rcases Nq bq n with hK|hx
 ·refine Lake.ex3 (hK) ?_
  (first|clear hK|skip)
  rintro l1 x l2:(_);rintro⟨rfl,rfl⟩:_;have hg:=C.bk R.nd (x:=x) de;obtain⟨f1,f2⟩:=C.b x de;have n3:=neT e1 f1 rfl;lk;have C2:=(C.setC (m1+1) m2 m3).oZ (x':={x with h:=x.h+1}) R.nd rfl rfl rfl rfl rfl;have k:=R.cK x de;have hh:=k.h0;have fV:({x with h:=x.h+1}:Row).busy=true:=by unfold Row.busy;rw[show({x with h:=x.h+1}:Row).h=x.h+1 from rfl,MN %[|hh]];rfl
  have R2:=R.set (x':={x with h:=x.h+1}) (cnt':=cnt+1-b1 x.busy) rfl ⟨k.n0,k.n1,k.len,by show 0≤x.h+1;(exists hh),k.p0,fun z=>by nomatch fV,z⟩ (by rw[fV];cases x.busy<;>simp[b1]);rw[Row.kS fV]at R2;refine h _ x.a x.b x.h x.p _ ?_ hh (((aF.refl P σ).upd e1 hP hP).upd ((av _ _ n3.symm).trans f1) hP hP) ⟨bF,hm,ok,(hD.upd e1 bF.symm).upd ((av _ _ n3.symm).trans f1) bF.symm,_,_,_,_,_,_,_,_,_,C2,R2⟩;cases hb:x.busy with
  |true=>exact .inl ⟨R.Nl hb,by simp[b1]⟩
  |false =>
   have q1:x.h=0∧x.p=0:=by unfold Row.busy at hb;simpa using hb
   exact .inr ⟨R.HM hb,k.clean hb,q1.1,q1.2,by simp[b1]⟩
 have hg:=C.PR hx
 lk
 have hA:=R.FG hx
 refine aT (PS (P:=(·=q)) pr hm C R rfl (hr hA) fun jb DD Rf dp1 o1 sub C1 R1 cU=>?_) rfl
 have rj:=hD.only o1 bF
 have tU:∀y∈DD,y.n≠n:=fun y hy=>hx y (sub y hy)
 clear C R
 have g1:=C1.c
 obtain⟨I6,dk,dl,du,oH,oI,d1,d2,d3,d4⟩:=id rj
 lk
 refine aT (vS pr rj hd h0 h1 (ok.mono %[|hw]) ?_) rfl
 have hlen:((D.bk n).length:Int)=D.size:=ok.bk n
 have FK:=ok.s1
 lk
 refine aT (PT (P:=(·=q)) pr rfl %[hlen|FK] fun x hN B Ah b1 b2 b3 b4 b5 o2 hB ag=>?_) rfl
 obtain⟨Bn,Ba,I7,I8,Bb,Bh,Bp⟩:=B
 dsimp only at b1 b2 b3 b4 b5
 subst b1 b2 b3 b4 b5
 have C2:=C1.agree (σ':=hN) fun a t ob _ e=>(ag a (by rw[e];exact Option.some_ne_none _)).trans e
 have jc:=rj.only o2 bF
 clear C1 rj d1 d2 d3 d4 g1
 have g1:=C2.c
 have g2:=C2.n
 have g3:=C2.r
 obtain⟨f1,f2⟩:=id hB
 have n3:=neT g1 f1 rfl
 have n4:=neT g1 g2 rfl
 have n5:=neT g1 g3 rfl
 have n6:=neT g2 g3 rfl
 have n7:=neT g2 f1 rfl
 have n8:=neT g3 f1 rfl
 lk
 ·have:=C2.Np;have:=R1.len;omega
 ·rw[bB];have:=R1.len;exists hm,cU
 rename_i Nr
 have C3:=(C2.setC m1 (m2+1) m3).add (x:=⟨Bn,Ba,I7,I8,D.bk Bn,0,0⟩) (dp':=Nr) tU ⟨(av _ _ n3.symm).trans hB.a,(av _ _ (neT hB.b g1 rfl)).trans hB.b⟩
 have Wr:((DD++[(⟨Bn,Ba,I7,I8,D.bk Bn,0,0⟩:Row)]).map (·.n)).Nodup:=by
  rw[bZ,lA];refine⟨R1.nd,by simp,fun a ha b hb z=>?_⟩;obtain⟨y,hy,rfl⟩:=gB ha;have:b=Bn:=dE hb;exact tU y hy (z.trans this)
 have C4:=C3.oZ (x':=⟨Bn,Ba,I7,I8,D.bk Bn,1,0⟩) Wr rfl rfl rfl rfl rfl
 have R2:=R1.add (x:=⟨Bn,Ba,I7,I8,D.bk Bn,1,0⟩) tU cU ⟨h0,h1,hlen,by show(0:Int)≤1;decide,fh _,fun z=>by cases z⟩
 have q1:upd hN c ((q,0,0),.inst 433 dx (nO r bn m1 (m2+1) m3 ay d D.size)) bn=_:=(av _ _ n4.symm).trans g2
 have q2:upd (upd hN c ((q,0,0),.inst 433 dx (nO r bn m1 (m2+1) m3 ay d D.size))) bn ((q,2,0),.dict (f9 Rf Bn (.ref Ba)) Nr) r=_:=(av _ _ n6.symm).trans ((av _ _ n5.symm).trans g3)
 have q3:upd (upd (upd hN c ((q,0,0),.inst 433 dx (nO r bn m1 (m2+1) m3 ay d D.size))) bn ((q,2,0),.dict (f9 Rf Bn (.ref Ba)) Nr)) r ((q,1,0),.list (DD.map gz++[.ref Ba])) Ba=_:=(av _ _ n8.symm).trans ((av _ _ n7.symm).trans ((av _ _ n3.symm).trans f1))
 refine h _ Ba (D.bk Bn) 0 0 (cnt+1) (.inr ⟨hA,rfl,rfl,rfl,rfl⟩) (fh _) ?_ ⟨bF,hm,ok,(((jc.upd g1 bF.symm).upd q1 bF.symm).upd q2 bF.symm).upd q3 bF.symm,_,_,_,_,_,_,_,_,_,C4,R2⟩
 exact(((((o1.trans o2).mono fun x z=>z▸hP).upd g1 hP hP).upd q1 hP hP).upd q2 hP hP).upd q3 hP hP
end
open JL
inductive gp(σ:St)(o q:Nat)(c d:Addr)(D:aE):Prop where
 |mk (hD:bY σ o d D) (dx:Addr) (ay size:Int) (r bn:Addr) (m1 m2 m3:Int) (e:σ c=some ((q,0,0),.inst 433 dx (nO r bn m1 m2 m3 ay d size)))
section
variable {G:Gd}{σ:St}{Q:LV→St→Prop}{ep:EP}{o q:Nat}{c d:Addr}{ay:Int}{D:aE}{aJ:Act}{cnt w:Nat}{P:Nat→Prop}
theorem PU{G:Gd}(pr:Pr G):pQ G.K 316=true:=by rw[pr.K];k_in
theorem nQ{G:Gd}{o q:Nat}{c d:Addr}{ay:Int}{D:aE}{w:Nat}{P:Nat→Prop}{σ:St}{Q:LV→St→Prop}{aJ:Act}{cnt:Nat}{A:fj}(pr:Pr G)(hC:aS o q ay c d w D σ cnt aJ)(hP:P q)(hA:aJ n=some A)(hh:0<A.h)(dS:A.h=1→A.p=0→A.b=D.bk n)(h:∀σ' cnt',cnt'+1=cnt+b1 (mB A).isSome→aF P σ σ'→aS o q ay c d w D σ' cnt' (gj aJ n (mB A))→Q .none σ'):CallT 2 b0 (.ref 369) G σ Q [.ref c,.ref A.a]:=by
 law_purse 0 =>
 have vF:=hC
 obtain⟨bF,hm,ok,hD,bq,dx,r,bn,m1,m2,m3,es,dp,C,R⟩:=hC
 have hR:=R
 obtain⟨l1,x,l2,rfl,rfl,hb,rfl⟩:=R.find hA
 obtain⟨f1,f2⟩:=C.b x de
 have e2:=C.r
 have e1:=C.c
 have n1:=neT e2 f1 rfl
 have n2:=neT e1 f1 rfl
 have k:=R.cK x de
 have hh:0<x.h:=hh
 have dS:x.h=1→x.p=0→x.b=D.bk x.n:=dS
 have C2:=C.oZ (x':={x with h:=x.h-1}) R.nd rfl rfl rfl rfl rfl
 have ha:({x with h:=x.h-1}:Row).pA=mB x.ko:=by
  refine BH (fun z=>?_) fun z=>?_
  ·have:=sE.mp z;exact bh ⟨by have:x.h-1=0:=this.1;show x.h=1;(exists this),this.2⟩
  have:=vV.mp z;exact aY fun y=>this ⟨by have:x.h=1:=y.1;show x.h-1=0;(exists this),y.2⟩
 have gO:=R.BG hb
 have R2:=R.set (x':={x with h:=x.h-1}) (cnt':=cnt+b1 (mB x.ko).isSome-1) rfl ⟨k.n0,k.n1,k.len,by show 0≤x.h-1;(exists hh),k.p0,fun z=>by
  have:=sE.mp z;exact dS (by have:x.h-1=0:=this.1;exists this) this.2⟩ (by rw[← ha,FI,hb];show _+1=_;(have w0:=Ln.fS (cnt+b1 ({x with h:=x.h-1}:Row).busy) (1);revert gO w0;room))
 rw[ha]at R2
 have cn:cnt+b1 (mB x.ko).isSome-1+1=cnt+b1 (mB x.ko).isSome:=by(have w0:=Ln.fS (cnt+b1 (mB x.ko).isSome) (1);revert gO w0;room)
 wtm_at "fnK b0|self buffer"
 intro cx aa F1 F2 F3
 unfold Row.ko at *
 lk
 refine aT (oG (A:=⟨x.a,x.b,x.h,x.p⟩) pr vF hA hh ?_) rfl
 lk
 ·have g1:=C2.r;have gx:=(C2.b {x with h:=x.h-1} de).a;refine Bf (j:=l1.length) g1 gx (PU pr) (by rw[bB];have:=R2.len;exists hm,this) (Nm ..) (fun m v hm hv=>Bj (x:={x with h:=x.h-1}) C2.b R2.nd hm hv) ?_;rw[HN];have n3:=neT C2.r gx rfl;have n4:=neT C2.c gx rfl;have n5:=neT C2.c C2.r rfl;have g2:=C2.c;lk
  ·rw[bB];have:=R2.len;simp only[dv,gH]at this ⊢;exists hm,this
  rw[tB];have g3:upd σ x.a ((q,3,x.n),.inst 316 x.dx (Af {x with h:=x.h-1})) r=_:=C2.r;exact h _ _ cn (((aF.refl P σ).upd f1 hP hP).upd g3 hP hP) ⟨bF,hm,ok,(hD.upd f1 bF.symm).upd g3 bF.symm,_,_,_,_,_,_,_,_,_,C2.Wn,R2.perm (List.perm_middle.trans (List.perm_append_comm (l₁:=[_])))⟩
 exact h _ _ cn ((aF.refl P σ).upd f1 hP hP) ⟨bF,hm,ok,hD.upd f1 bF.symm,_,_,_,_,_,_,_,_,_,C2,R2⟩
theorem T7{A:fj}(pr:Pr G)(hC:aS o q ay c d w D σ cnt aJ)(hP:P q)(hA:aJ n=some A)(hh:0<A.h)
 (h:∀σ',aF P σ σ'→aS o q ay c d w D σ' cnt (gj aJ n (some {A with p:=A.p+1}))→Q .none σ'):CallT 2 b0 (.ref 376) G σ Q [.ref c,.ref A.a]:=by
 law_purse 0 =>
 have vF:=hC
 obtain⟨bF,hm,ok,hD,bq,dx,r,bn,m1,m2,m3,es,dp,C,R⟩:=hC
 obtain⟨l1,x,l2,rfl,rfl,hb,rfl⟩:=R.find hA
 obtain⟨f1,f2⟩:=C.b x de
 have k:=R.cK x de
 have hh:0<x.h:=hh
 have e1:=C.c
 have fV:({x with p:=x.p+1}:Row).busy=true:=vV.mpr fun z=>by have:x.h=0:=z.1;exists hh,this
 have C2:=C.oZ (x':={x with p:=x.p+1}) R.nd rfl rfl rfl rfl rfl
 have R2:=R.set (x':={x with p:=x.p+1}) (cnt':=cnt) rfl ⟨k.n0,k.n1,k.len,k.h0,by have:=k.p0;show 0≤x.p+1;(exists this),fun z=>by nomatch fV,z⟩ (by rw[fV,hb])
 rw[Row.kS fV]at R2
 wtm_at "fnK b0|self buffer"
 intro cx aa F1 F2 F3
 unfold Row.ko at *
 lk
 refine aT (oG (A:=⟨x.a,x.b,x.h,x.p⟩) pr vF hA hh ?_) rfl
 lk
 exact h _ ((aF.refl P σ).upd f1 hP hP) ⟨bF,hm,ok,hD.upd f1 bF.symm,_,_,_,_,_,_,_,_,_,C2,R2⟩
theorem Nt{A:fj}(pr:Pr G)(hC:aS o q ay c d w D σ cnt aJ)(hP:P q)(hA:aJ n=some A)(hh:0<A.p)(dS:A.h=0→A.p=1→A.b=D.bk n)
 (h:∀σ' cnt',cnt'+1=cnt+b1 (sy A).isSome→aF P σ σ'→aS o q ay c d w D σ' cnt' (gj aJ n (sy A))→Q .none σ'):CallT 1 b0 (.ref 383) G σ Q [.ref c,.int n]:=by
 law_purse 0 =>
 obtain⟨bF,hm,ok,hD,bq,dx,r,bn,m1,m2,m3,es,dp,C,R⟩:=hC
 obtain⟨l1,x,l2,rfl,rfl,hb,rfl⟩:=R.find hA
 obtain⟨f1,f2⟩:=C.b x de
 have hg:=C.bk R.nd (x:=x) de
 have e3:=C.n
 have e1:=C.c
 have k:=R.cK x de
 have hh:0<x.p:=hh
 have dS:x.h=0→x.p=1→x.b=D.bk x.n:=dS
 have C2:=C.oZ (x':={x with p:=x.p-1}) R.nd rfl rfl rfl rfl rfl
 have ha:({x with p:=x.p-1}:Row).pA=sy x.ko:=by
  refine BH (fun z=>?_) fun z=>?_
  ·have:=sE.mp z;exact bh ⟨this.1,by have:x.p-1=0:=this.2;show x.p=1;exists this⟩
  have:=vV.mp z;exact aY fun y=>this ⟨y.1,by have:x.p=1:=y.2;show x.p-1=0;exists this⟩
 have gO:=R.BG hb
 have R2:=R.set (x':={x with p:=x.p-1}) (cnt':=cnt+b1 (sy x.ko).isSome-1) rfl ⟨k.n0,k.n1,k.len,k.h0,by show 0≤x.p-1;(exists hh),fun z=>by
  have:=sE.mp z;exact dS this.1 (by have:x.p-1=0:=this.2;exists this)⟩ (by rw[← ha,FI,hb];show _+1=_;(have w0:=Ln.fS (cnt+b1 ({x with p:=x.p-1}:Row).busy) (1);revert gO w0;room))
 rw[ha]at R2
 have cn:cnt+b1 (sy x.ko).isSome-1+1=cnt+b1 (sy x.ko).isSome:=by(have w0:=Ln.fS (cnt+b1 (sy x.ko).isSome) (1);revert gO w0;room)
 wtm_at "fnK b0|self number"
 intro cx aa F1 F2 F3
 lk
 exact h _ _ cn ((aF.refl P σ).upd f1 hP hP) ⟨bF,hm,ok,hD.upd f1 bF.symm,_,_,_,_,_,_,_,_,_,C2,R2⟩
theorem Nu{A:fj}(pr:Pr G)(hC:aS o q ay c d w D σ cnt aJ)(hP:P q)(eJ:P o)(hw:w≤8000)(hd:D.cj=false)(hA:aJ n=some A)(hh:0<A.h)
 (h:cG D.last D.writes=false→∀σ',aF P σ σ'→aS o q ay c d (w+3) (D.wr n A.b) σ' cnt aJ→Q .none σ')(hc:cG D.last D.writes=true→∀σ',aF P σ σ'→gp σ' o q c d D.ju→ep.Q 95 σ'):CallT 6 ⟨false,ep.Q⟩ (.ref 390) G σ Q [.ref c,.ref A.a]:=by
 law_purse 0 =>
 have vF:=hC
 obtain⟨bF,hm,ok,hD,bq,dx,r,bn,m1,m2,m3,es,dp,C,R⟩:=hC
 have hR:=R
 obtain⟨l1,x,l2,rfl,rfl,hb,rfl⟩:=R.find hA
 have B:=C.b x de
 obtain⟨f1,f2⟩:=id B
 have e1:=C.c
 obtain⟨mi,dk,dl,du,oH,oI,d1,d2,d3,d4⟩:=id hD
 have k:=R.cK x de
 have hh:0<x.h:=hh
 have hl:=k.len
 have hs:=ok.s1
 wtm_at "fnK ep|self buffer"
 intro cx aa F1 F2 F3
 unfold Row.ko at *
 lk
 refine aT (oG (A:=⟨x.a,x.b,x.h,x.p⟩) pr vF hA hh ?_) rfl
 lk
 refine aT (BF pr B %[hl|hs] ?_) rfl
 lk
 refine fu (FC (P:=(·=o)) pr hD rfl hd k.n0 k.n1 hl (ok.mono %[|hw]) (fun hr σ' ho jc=>?_) fun hr σ' ho jc=>hc hr σ' (ho.mono fun _ z=>z▸eJ) ⟨jc,_,_,_,_,_,_,_,_,ho.at e1 bF.symm⟩) rfl
 have C2:=C.only ho bF.symm
 have g1:=C2.c
 lk
 exact h hr _ ((ho.mono fun _ z=>z▸eJ).upd g1 hP hP) ⟨bF,hm,ok.wr hl,jc.upd g1 bF.symm,_,_,_,_,_,_,_,_,_,C2.setC m1 m2 (m3+1),R.Nk rfl rfl fun y hy z=>by
  rw[aE.pV,aY fun e=>?_];rcases eG hy with hy|hy
  ·exact(mr R.nd).1 y hy e
  rcases eb hy with e0|hy
  ·subst y;nomatch hb,z
  exact(mr R.nd).2 y hy e⟩
theorem Nv(pr:Pr G)(hC:aS o q ay c d w D σ cnt aJ)(eJ:P o)(hw:w≤8000)(hd:D.cj=false)
 (h:cG D.bl D.bj=false→∀σ',aF P σ σ'→aS o q ay c d (w+1) D.fl σ' cnt aJ→Q .none σ')(hc:cG D.bl D.bj=true→∀σ',aF P σ σ'→gp σ' o q c d D.ju→ep.Q 95 σ'):CallT 6 ⟨false,ep.Q⟩ (.ref 397) G σ Q [.ref c]:=by
 obtain⟨bF,hm,ok,hD,bq,dx,r,bn,m1,m2,m3,es,dp,C,R⟩:=hC
 have e1:=C.c
 obtain⟨mi,dk,dl,du,oH,oI,d1,d2,d3,d4⟩:=id hD
 wtm_at "fnK ep|self"
 intro cx aa F1 F2 F3
 lk
 refine fu (FD (P:=(·=o)) pr hD rfl hd (ok.mono %[|hw]) (fun hr σ' ho jc=>?_) fun hr σ' ho jc=>hc hr σ' (ho.mono fun _ z=>z▸eJ) ⟨jc,_,_,_,_,_,_,_,_,ho.at e1 bF.symm⟩) rfl
 lk
 exact h hr _ (ho.mono fun _ z=>z▸eJ) ⟨bF,hm,ok.fl,jc,_,_,_,_,_,_,_,_,_,C.only ho bF.symm,R.Nk rfl rfl fun y hy z=>rfl⟩
end
open JL
noncomputable def cont(aJ:Act)(D:aE)(n:Int):bc:=((aJ n).map (·.b)).getD (D.bk n)
inductive PV(σ:St)(q:Nat)(c d:Addr)(ay size:Int):Prop where
 |mk (dx r bn:Addr) (m1 m2 m3:Int) (e:σ c=some ((q,0,0),.inst 433 dx (nO r bn m1 m2 m3 ay d size)))
section
variable {σ:St}{o q:Nat}{c d:Addr}{ay:Int}{D:aE}{aJ:Act}{cnt w:Nat}{P:Nat→Prop}
theorem aS.cell{o q:Nat}{c d:Addr}{ay:Int}{D:aE}{w:Nat}{aJ:Act}{cnt:Nat}{σ:St}(hC:aS o q ay c d w D σ cnt aJ):PV σ q c d ay D.size:=by
 obtain⟨-,-,-,-,bq,dx,r,bn,m1,m2,m3,es,dp,C,R⟩:=hC
 exact⟨_,_,_,_,_,_,C.c⟩
theorem aS.buf{o q:Nat}{c d:Addr}{ay:Int}{D:aE}{w:Nat}{cnt:Nat}{σ:St}{aJ:Act}{A:fj}(hC:aS o q ay c d w D σ cnt aJ)(hA:aJ n=some A):∃dx ba,jG σ q ⟨n,A.a,dx,ba,A.b,A.h,A.p⟩∧(A.b.length:Int)=D.size∧0≤A.h∧0≤A.p∧¬(A.h=0∧A.p=0)∧0≤n∧n<D.aQ:=by
 obtain⟨-,-,-,-,bq,dx,r,bn,m1,m2,m3,es,dp,C,R⟩:=hC
 obtain⟨l1,x,l2,rfl,rfl,hb,rfl⟩:=R.find hA
 have k:=R.cK x de
 exact⟨x.dx,x.ba,C.b x de,k.len,k.h0,k.p0,vV.mp hb,k.n0,k.n1⟩
theorem aS.setB(hC:aS o q ay c d w D σ cnt aJ){A:fj}(hA:aJ n=some A){dx ba:Addr}(hB:jG σ q ⟨n,A.a,dx,ba,A.b,A.h,A.p⟩){b:bc}(hb:(b.length:Int)=D.size) :
  aS o q ay c d w D (upd σ ba ((q,4,n),.eM b)) cnt (gj aJ n (some {A with b:=b})):=by
 obtain⟨bF,hm,ok,hD,bq,mi,r,bn,m1,m2,m3,es,dp,C,R⟩:=hC
 obtain⟨l1,x,l2,rfl,rfl,I9,rfl⟩:=R.find hA
 have k:=R.cK x de
 have B:=C.b x de
 have e:ba=x.ba:=by
  have h1:σ x.a=some ((q,3,x.n),.inst 316 dx (Af ⟨x.n,x.a,dx,ba,x.b,x.h,x.p⟩)):=hB.a;rw[B.a]at h1;injection h1 with h1
  injection h1 with _ h1
  injection h1 with _ _ h1
  simp at h1;exact h1.symm
 subst e
 have fV:({x with b:=b}:Row).busy=true:=I9
 have R2:=R.set (x':={x with b:=b}) (cnt':=cnt) rfl ⟨k.n0,k.n1,hb,k.h0,k.p0,fun z=>by nomatch fV,z⟩ (by rw[fV,I9])
 rw[Row.kS fV]at R2
 exact⟨bF,hm,ok,hD.upd B.b bF.symm,_,_,_,_,_,_,_,_,_,C.setB R.nd b,R2⟩
end
section
variable {G:Gd}{σ:St}{Q:LV→St→Prop}{ep:EP}{o q:Nat}{c d:Addr}{ay:Int}{D:aE}{aJ:Act}{cnt w:Nat}{P:Nat→Prop}
theorem vX:∀ {n:Int} (pr:Pr G) (hC:aS o q ay c d w D σ cnt aJ) (hP:P q) (hw:w≤8000) (hd:D.cj=false) (h0:0≤n) (h1:n<D.aQ) (hr:aJ n=none→(cnt:Int)<ay) (h:∀σ',aF P σ σ'→aS o q ay c d w D σ' cnt aJ→Q (.bX (cont aJ D n)) σ'),CallT 4 b0 (.ref 404) G σ Q [.ref c,.int n]:=by
 law_purse 0 =>
 revert G σ Q o q c d ay D aJ cnt w P
 rintro G σ Q o q c d ay D aJ cnt w:(_)
 rintro P n:(_)
 w_up
 obtain⟨dx,r,bn,m1,m2,m3,e1⟩:=hC.cell
 have ok:=hC.2.2.1
 have hs:=ok.s1
 wtm_at "fnK b0|self number"
 rintro cx aa:(_)
 intro F1 F2 F3
 lk
 refine aT (DC pr hC hP hw hd h0 h1 hr ?_) rfl
 rintro jb a b hh p:(_)
 rintro Ua:(_)
 intro fP Ja o1 C1
 refine Lake.ex2 (C1.buf (j7 ..)) ?_
 rintro mi ba:(_)
 rintro⟨B,hl,-⟩:_
 obtain⟨f1,f2⟩:=id B
 lk
 refine aT (BF pr B (by show b.length≤1000;have:(b.length:Int)=D.size:=hl;exists hs,this) ?_) rfl
 obtain⟨dx,r,bn,m1,m2,m3,e1⟩:=C1.cell
 lk
 refine aT (nQ (A:=⟨a,b,hh+1,p⟩) pr C1 hP (j7 ..) (by show 0<hh+1;exists Ja) ?_ fun hN Ub xE o2 C2=>?_) rfl
 ·intro z1 z2;have z1:hh+1=1:=z1;have z2:p=0:=z2;rcases fP with hK|hK
  ·obtain⟨q1,q2⟩:=hK;obtain⟨_,_,_,_,_,_,q3,_⟩:=hC.buf q1;exact absurd ⟨by show hh=0;(exists z1),z2⟩ q3
  obtain⟨q1,q2,-⟩:=hK;exact q2
 lk
 have hA:aJ n=mB ⟨a,b,hh+1,p⟩:=by
  unfold mB;rcases fP with hK|hK
  ·obtain⟨q1,q2⟩:=hK;obtain⟨_,_,_,_,_,_,q3,_⟩:=hC.buf q1;rw[aY,q1]
   ·show some (fj.mk a b hh p)=some (fj.mk a b (hh+1-1) p);rw[Int.add_sub_cancel]
   exact fun z=>q3 ⟨by have:hh+1=1:=z.1;show hh=0;(exists this),z.2⟩
  obtain⟨q1,q2,q3,q4,-⟩:=hK;rw[bh ⟨by show hh+1=1;(exists q3),q4⟩,q1]
 rw[wX,← hA,nN]at C2
 have rR:Ub=cnt:=by
  rcases fP with hK|hK
  ·obtain⟨q1,q2⟩:=hK;rw[← hA,q1]at xE;simp[b1]at xE;exists q2,xE
  obtain⟨q1,q2,q3,q4,q5⟩:=hK;rw[← hA,q1]at xE;simp[b1]at xE;exists q5,xE
 subst rR
 have hb:cont aJ D n=b:=by
  unfold cont;rcases fP with hK|hK
  ·obtain⟨q1,q2⟩:=hK;rw[q1];rfl
  obtain⟨q1,q2,q3,q4,q5⟩:=hK;rw[q1];exact q2.symm
 have:=h hN (o1.trans o2) C2
 rw[hb]at this
 exact this
theorem Nw{A:fj}{b:bc}(pr:Pr G)(hC:aS o q ay c d w D σ cnt aJ)(hP:P q)(hA:aJ n=some A)(hb:(b.length:Int)=D.size)
 (h:∀σ',aF P σ σ'→aS o q ay c d w D σ' cnt (gj aJ n (some {A with b:=b}))→Q .none σ'):CallT 1 b0 (.ref 278) G σ Q [.ref A.a,.bX b]:=by
 obtain⟨dx,ba,B,hl,-⟩:=hC.buf hA
 have ok:=hC.2.2.1
 have hs:=ok.s1
 exact PO pr B (by show A.b.length≤1000;exists hl,hs) (by show b.length=A.b.length;exists hb,hl) (h _ ((aF.refl P σ).upd B.b hP hP) (hC.setB hA B hb))
theorem PW{x:Int}{A:fj}{b:bc}(pr:Pr G)(hC:aS o q ay c d w D σ cnt aJ)(hP:P q)(hA:aJ n=some A)(h0:0≤x)(hb:x+b.length≤D.size)
 (h:∀σ',aF P σ σ'→aS o q ay c d w D σ' cnt (gj aJ n (some {A with b:=d6 A.b b x.toNat}))→Q .none σ'):CallT 2 b0 (.ref 271) G σ Q [.ref A.a,.int x,.bX b]:=by
 obtain⟨dx,ba,B,hl,-⟩:=hC.buf hA
 have ok:=hC.2.2.1
 have hs:=ok.s1
 refine TZ pr B (by show A.b.length≤1000;exists hl,hs) h0 (by show x+b.length≤A.b.length;exists hb,hl) (h _ ((aF.refl P σ).upd B.b hP hP) (hC.setB hA B ?_))
 show((d6 A.b b x.toNat).length:Int)=_
 unfold d6
 rw[dv,dv,iM,oV];(have w0:=Ln.gm (x.toNat) (A.b.length);have w1:=Ln.fT (x);have w2:=Ln.fS (A.b.length) (x.toNat+b.length);revert h0 hb hl w0 w1 w2;room)
theorem DE{n:Int}{b:bc}(pr:Pr G)(hC:aS o q ay c d w D σ cnt aJ)(hP:P q)(eJ:P o)(hw:w≤8000)(hd:D.cj=false)(h0:0≤n)(h1:n<D.aQ)(hr:aJ n=none→(cnt:Int)<ay)(hb:(b.length:Int)=D.size)
 (h:cG D.last D.writes=false→∀σ',aF P σ σ'→aS o q ay c d (w+3) (D.wr n b) σ' cnt (gj aJ n ((aJ n).map fun A=>{A with b:=b}))→Q .none σ')(hc:cG D.last D.writes=true→∀σ',aF P σ σ'→gp σ' o q c d D.ju→ep.Q 95 σ'):CallT 7 ⟨false,ep.Q⟩ (.ref 411) G σ Q [.ref c,.int n,.bX b]:=by
 law_purse 0 =>
 revert pr hC hP eJ hw hd h0 h1 hr hb h hc
 revert G σ Q ep o q c d ay D aJ cnt w P n b
 rintro G σ Q ep o q c d ay D aJ cnt w P n b:(_)
 intro pr hC hP eJ hw hd h0 h1 hr hb h hc
 obtain⟨dx,r,bn,m1,m2,m3,e1⟩:=hC.cell
 have ok:=hC.2.2.1
 have hs:=ok.s1
 wtm_at "fnK ep|self number octets"
 rintro cx aa:(_)
 intro F1 F2 F3
 lk
 refine aT (vW pr hC h0 h1 ?_) rfl
 lk
 ·exists hb,hs
 refine aT (DC pr hC hP %[|hw] hd h0 h1 hr ?_) rfl
 rintro jb a tV hh p:(_)
 rintro Ua:(_)
 intro fP Ja o1 C1
 obtain⟨mi,ba,B,hl,-⟩:=C1.buf (j7 ..)
 obtain⟨f1,f2⟩:=id B
 lk
 refine aT (Nw (A:=⟨a,tV,hh+1,p⟩) pr C1 hP (j7 ..) hb fun hN o2 C2=>?_) rfl
 rw[wX]at C2
 obtain⟨dx,r,bn,m1,m2,m3,e1⟩:=C2.cell
 lk
 refine fu (Nu (A:=⟨a,b,hh+1,p⟩) pr C2 hP eJ %[|hw] hd (j7 ..) (by show 0<hh+1;exists Ja) (fun Nx dP o3 C3=>?_) fun Nx dP o3 Jb=>hc Nx dP ((o1.trans o2).trans o3) Jb) rfl
 obtain⟨dx,r,bn,m1,m2,m3,e1⟩:=C3.cell
 lk
 refine aT (nQ (A:=⟨a,b,hh+1,p⟩) pr C3 hP (j7 ..) (by show 0<hh+1;exists Ja) (fun _ _=>by rw[aE.pV,bh rfl]) fun dG Uc BI o4 C4=>?_) rfl
 lk
 have hA:(aJ n).map (fun A=>{A with b:=b})=mB ⟨a,b,hh+1,p⟩:=by
  unfold mB;rcases fP with hK|hK
  ·obtain⟨q1,q2⟩:=hK;obtain⟨_,_,_,_,_,_,q3,_⟩:=hC.buf q1;rw[aY,q1]
   ·show some (fj.mk a b hh p)=some (fj.mk a b (hh+1-1) p);rw[Int.add_sub_cancel]
   exact fun z=>q3 ⟨by have:hh+1=1:=z.1;show hh=0;(exists this),z.2⟩
  obtain⟨q1,q2,q3,q4,-⟩:=hK;rw[bh ⟨by show hh+1=1;(exists q3),q4⟩,q1];rfl
 have rR:Uc=cnt:=by
  rcases fP with hK|hK
  ·obtain⟨q1,q2⟩:=hK;rw[← hA,q1]at BI;simp[b1]at BI;exists q2,BI
  obtain⟨q1,q2,q3,q4,q5⟩:=hK;rw[← hA,q1]at BI;simp[b1]at BI;exists q5,BI
 subst rR
 rw[wX,← hA]at C4
 exact h Nx dG (((o1.trans o2).trans o3).trans o4) C4
end
open JL
section
variable {G:Gd}{σ:St}{Q:LV→St→Prop}{ep:EP}{o q:Nat}{c d:Addr}{ay:Int}{D:aE}{aJ:Act}{cnt w:Nat}{P:Nat→Prop}
theorem Jc:∀(pr:Pr G) (hC:aS o q ay c d w D σ cnt aJ) (h:Q (.int (ay-cnt)) σ),CallT 2 b0 (.ref 423) G σ Q [.ref c]:=by
 law_purse 0 =>
 revert G σ Q o q c d ay D aJ cnt w
 rintro G σ Q o q c d ay D aJ cnt w:(_)
 w_up
 obtain⟨bF,hm,ok,hD,bq,dx,r,bn,m1,m2,m3,es,dp,C,R⟩:=hC
 have e1:=C.c
 have e2:=C.r
 have hl:=R.len
 wtm_at "Zk b0 c|self"
 rintro cx aa L:(_)
 intro F1 F2 F3 F4 F5 F6
 lk
 refine ri F1 F4 F5 (by f_are) (by k_in) (by intro _;with_unfolding_all rfl) (yy rfl ?_)
 lk
 refine Dj e2 (mH (by rw[bB];exists hm,hl) (fun i aR ae=>σ=ae∧aR=((bq.take i).filter (·.busy)).map gz) ⟨rfl,rfl⟩ ⟨?_,?_⟩)
 ·rintro c' ij G1 G5 i v aR ae hv eI ⟨rfl,rfl⟩:_;obtain⟨y,hy,rfl⟩:=dj hv;have hB:=C.b y (eF hy);have f1:=hB.a;have kU:=c8 hy;unfold gz;lk;refine aT (I3 pr hB ?_) rfl;lk
  all_goals rename_i z;rw[Bool.not_not]at z
  ·refine⟨eI,rfl,?_⟩;rw[kU,filter_append,bZ,oU,z];rfl
  refine⟨eI,rfl,?_⟩;rw[kU,filter_append,bZ,oU,z];simp
 rintro aR ae - ⟨rfl,rfl⟩:_
 refine bu ?_
 rw[bB,ib]
 lk
 ·rw[bB];have:=List.length_filter_le (·.busy) bq;exists hm,hl,this
 rw[bB,← List.countP_eq_length_filter,R.cnt]
 exact h
end
open JL
structure AJ where
 af:Int
 size:Int
 bb:Int
 ay:Int
 cK:Int
 ab:List Int
 aK:Int
 dQ:Int
 deriving Nonempty
noncomputable abbrev jF(J:AJ)(c l nd:Addr):List (Str×LV):=[("cache",.ref c),("start",.int J.af),("size",.int J.size),("places",.int J.bb),("most",.int J.ay),("each",.int J.cK),("numbers",.ref l),("noted",.ref nd),("calls",.int J.aK),("commits",.int J.dQ)]
structure JP(dx l nd:Addr)(es:List (Int×LV))(dp:Nat)(z:Nat)(J:AJ)(j c:Addr)(σ:St):Prop where
 j:σ j=some ((z,0,0),.inst 218 dx (jF J c l nd))
 l:σ l=some ((z,1,0),.list (J.ab.map .int))
 n:σ nd=some ((z,2,0),.dict es dp)
 es:es.map (·.1)=J.ab
inductive eU(j c:Addr)(z:Nat)(σ:St)(J:AJ):Prop where
 |mk (hl:J.ab.length≤1000) (he:0≤J.cK∧J.cK≤1000) (dx l nd:Addr) (es:List (Int×LV)) (dp:Nat) (h:JP dx l nd es dp z J j c σ)
section
variable {σ σ':St}{z:Nat}{j c:Addr}{J:AJ}{P:Nat→Prop}
theorem eU.only{z:Nat}{j c:Addr}{P:Nat→Prop}{J:AJ}{σ' σ:St}(h:eU j c z σ J)(k:aF P σ σ')(hz:¬P z):eU j c z σ' J:=by
 obtain⟨hl,he,dx,l,nd,es,dp,e1,e2,e3,e4⟩:=h
 exact⟨hl,he,dx,l,nd,es,dp,k.at e1 hz,k.at e2 hz,k.at e3 hz,e4⟩
theorem xI(h:es.map (·.1)=ab)(n:Int):(c6 es n).isSome=ab.contains n:=by
 subst h
 unfold c6
 rw[Option.isSome_map]
 induction es with
 |nil=>rfl
 |cons e r ih =>
  rw[List.find?_cons,ew,List.contains_cons];by_cases q:e.1=n
  ·simp[q]
  rw[jx q];have:(n==e.1)=false:=by simpa using fun y=>q y.symm
  rw[this,Bool.false_or];exact ih
theorem FL(h:es.map (·.1)=ab)(hn:ab.contains n=false)(v:LV):(f9 es n v).map (·.1)=ab++[n]:=by
 subst h
 unfold f9
 rw[aY,bZ];rfl
 intro y
 obtain⟨e,he,q⟩:=any_eq_true.mp y
 have q:e.1=n:=lu q
 have:(es.map (·.1)).contains n=true:=by rw[contains_iff_mem];exact q▸i3 (f:=(·.1)) he
 nomatch hn,this
end
section
variable {G:Gd}{σ:St}{Q:LV→St→Prop}{ep:EP}{o q z:Nat}{c d j:Addr}{ay:Int}{D:aE}{aJ:Act}{cnt w:Nat}{P:Nat→Prop}{J:AJ}
theorem PX:∀ {x dx:Addr} (pr:Pr G) (hD:bY σ o d D) (bF:o≠q) (ok:D.Ok w) (h0:1≤ay) (hm:ay≤1000) (e1:σ x=some ((q,0,0),.inst 433 dx [])) (hP:P q) (h:∀σ',aF P σ σ'→aS o q ay x d w D σ' 0 (fun _=>none)→Q .none σ'),CallT 1 b0 (.ref 334) G σ Q [.ref x,.ref d,.int ay]:=by
 law_purse 0 =>
 revert G σ Q o q d ay D w P
 rintro G σ Q o q d ay D w P x dx:(_)
 w_up
 obtain⟨mi,k,l,u,pk,pl,d1,d2,d3,d4⟩:=id hD
 have m1:=iF d1 e1 bF
 wtm_at "fnK b0|self disk most"
 rintro cx aa:(_)
 intro F1 F2 F3
 lk
 refine iu (q,1,0) ?_
 rintro r:(_)
 intro hr
 have n1:=neN (aI ..) hr
 lk
 refine iS ⟨(q,2,0),?_⟩
 rintro bn pk:(_)
 intro Rg
 have n2:=neN (aI ..) Rg
 have Ny:=Rg
 rw[av _ _ n2.symm]at Ny
 have n3:=neN (aI ..) Ny
 lk
 refine h _ ?_ ⟨bF,hm,ok,?_,[],dx,r,bn,0,0,0,[],pk,⟨aI ..,by da_tab,by da_tab,.nil,fun y hy=>by cases hy⟩,⟨nodup_nil,by simpa using(by exists h0:(0:Int)≤ay),(fun y hy=>by cases hy),fun k A=>⟨fun y=>(by cases y),fun bR=>by obtain⟨y,hy,_⟩:=bR;exact(by cases hy)⟩,rfl⟩⟩
 ·repeat' first
   |exact aF.refl P σ
   |exact hP
   |refine aF.new ?_ (by assumption) ?_
   |refine aF.upd ?_ (by da_tab) ?_ ?_
 repeat' first
  |exact hD
  |exact bF.symm
  |refine bY.new ?_ (by assumption)
  |refine bY.upd ?_ (by da_tab) ?_
theorem PY(pr:Pr G)(hD:bY σ o d D)(bF:o≠q)(ok:D.Ok w)(h0:1≤ay)(hm:ay≤1000)(hP:P q)
 (h:∀x σ',σ x=none→aF P σ σ'→aS o q ay x d w D σ' 0 (fun _=>none)→Q (.ref x) σ'):CallT 2 b0 (.ref 433) G σ Q [.ref d,.int ay]:=by
 refine CallT.make (t:=(q,0,0)) (t':=(q,5,0)) (fI:=334) (by rw[pr.K];k_in) (by rw[pr.K];k_in) (by rw[pr.K];k_in) fun x dx hx pU ne=>PX (P:=P) pr ((hD.new pU).new ?_) bF ok h0 hm (aI ..) hP fun σ' h1 h2=>⟨rfl,h x σ' hx (.trans (.new (.new (.refl P σ) pU hP) ?_ hP) h1) h2⟩
 ·rw[av _ _ ne];exact hx
 rw[av _ _ ne];exact hx
theorem Nz:∀ {n:Int} (pr:Pr G) (hJ:eU j c z σ J) (h:Q (.bool (decide (J.af≤n)&&decide (n<J.af+J.size))) σ),CallT 1 b0 (.ref 138) G σ Q [.ref j,.int n]:=by
 revert G σ Q z c j J
 rintro G σ Q z c j J:(_)
 rintro n:(_)
 w_up
 obtain⟨hl,he,dx,l,nd,es,dp,e1,e2,e3,e4⟩:=hJ
 wtm_at "fnK b0|self number"
 rintro cx aa:(_)
 intro F1 F2 F3
 lk
 ·rename_i y;rw[y,Bool.true_and]at h;exact h
 rename_i y
 rw[y,Bool.false_and]at h
 rw[y];exact h
noncomputable def AJ.room(J:AJ):Bool:=decide ((J.ab.length:Int)+(J.aK+1)*J.cK≤J.ay)
theorem Jd(pr:Pr G)(hJ:eU j c z σ J)(h:Q (.bool J.room) σ):CallT 1 b0 (.ref 145) G σ Q [.ref j]:=by
 obtain⟨hl,he,dx,l,nd,es,dp,e1,e2,e3,e4⟩:=hJ
 wtm_at "fnK b0|self"
 intro cx aa F1 F2 F3
 unfold AJ.room at h
 lk
 ·rw[bB];exists hl
 rw[bB];exact h
theorem DF(pr:Pr G)(hJ:eU j c z σ J)(h:Q (.int (J.ay-J.ab.length)) σ):CallT 1 b0 (.ref 152) G σ Q [.ref j]:=by
 obtain⟨hl,he,dx,l,nd,es,dp,e1,e2,e3,e4⟩:=hJ
 wtm_at "fnK b0|self"
 intro cx aa F1 F2 F3
 lk
 ·rw[bB];exists hl
 rw[bB];exact h
theorem NA(pr:Pr G)(hJ:eU j c z σ J)(hP:P z)(h:J.room=true→∀σ',aF P σ σ'→eU j c z σ' {J with aK:=J.aK+1}→Q .none σ')(hc:J.room=false→ep.Q 76 σ):CallT 3 ⟨false,ep.Q⟩ (.ref 159) G σ Q [.ref j]:=by
 have Je:=hJ
 obtain⟨hl,he,dx,l,nd,es,dp,e1,e2,e3,e4⟩:=hJ
 have n1:=neT e1 e2 rfl
 have n2:=neT e1 e3 rfl
 wtm_at "fnK te|self"
 intro cx aa F1 F2 F3
 lk
 refine aT (Jd pr Je ?_) rfl
 lk
 ·rename_i y;exact hc (by simpa using y)
 rename_i y
 exact h (by simpa using y) _ ((aF.refl P σ).upd e1 hP hP) ⟨hl,he,dx,l,nd,es,dp,aI ..,by da_tab,by da_tab,e4⟩
end
open JL
theorem aS.only{o q:Nat}{c d:Addr}{D:aE}{aJ:Act}{w:Nat}{P:Nat→Prop}(h:aS o q ay c d w D σ cnt aJ)(k:aF P σ σ')(ho:¬P o)(hq:¬P q):aS o q ay c d w D σ' cnt aJ:=by
 obtain⟨bF,hm,ok,hD,bq,dx,r,bn,m1,m2,m3,es,dp,C,R⟩:=h
 exact⟨bF,hm,ok,hD.only k ho,_,_,_,_,_,_,_,_,_,C.only k hq,R⟩
section
variable {G:Gd}{σ:St}{Q:LV→St→Prop}{ep:EP}{o q z:Nat}{c d j:Addr}{ay:Int}{D:aE}{aJ:Act}{cnt w:Nat}{P:Nat→Prop}{J:AJ}
theorem FN{n:Int}{A:fj}(pr:Pr G)(hC:aS o q ay c d w D σ cnt aJ)(hJ:eU j c z σ J)(hz:z≠o∧z≠q)(hP:P z)(eV:P q)(hA:aJ n=some A)(hh:0<A.h)(h0:0<J.aK)(hn:¬(J.af≤n∧n<J.af+J.size))(hm:J.ay<1000)
 (h1:J.ab.contains n=true→Q .none σ)
 (h2:J.ab.contains n=false→(J.ab.length:Int)<J.ay→∀σ',aF P σ σ'→aS o q ay c d w D σ' cnt (gj aJ n (some {A with p:=A.p+1}))→eU j c z σ' {J with ab:=J.ab++[n]}→Q .none σ')
 (h3:J.ab.contains n=false→J.ay≤J.ab.length→ep.Q 76 σ):CallT 3 ⟨false,ep.Q⟩ (.ref 166) G σ Q [.ref j,.ref A.a]:=by
 law_purse 0 =>
 revert pr hC hJ hz hP eV hA hh h0 hn hm h1 h2 h3
 revert G σ Q ep o q z c d j ay D aJ cnt w P J n A
 rintro G σ Q ep o q z c d j ay D aJ cnt w P:(_)
 rintro J n A:(_)
 intro pr hC hJ hz hP eV hA hh h0 hn hm h1 h2 h3
 have Je:=hJ
 obtain⟨hl,he,dx,l,nd,es,dp,e1,e2,e3,e4⟩:=hJ
 refine Lake.ex2 (hC.buf hA) ?_
 rintro Ws ba:(_)
 rintro⟨B,oJ,-,-,-,-,-⟩:_
 obtain⟨f1,f2⟩:=id B
 obtain⟨kW,r,bn,m1,m2,m3,g1⟩:=hC.cell
 have lp:(J.ab.map LV.int).length=J.ab.length:=bB ..
 have Wt:es.length=J.ab.length:=by rw[← e4,bB]
 wtm_at "fnK te|self buffer"
 rintro cx aa:(_)
 intro F1 F2 F3
 lk
 refine aT (Nz pr Je ?_) rfl
 have pW:(decide (J.af≤n)&&decide (n<J.af+J.size))=false:=by simpa using fun y=>Int.not_lt.mp fun x=>hn ⟨y,x⟩
 rw[pW]
 lk
 refine zt e3 ?_
 rw[xI e4]
 lk
 ·rename_i y;refine aT (oG pr hC hA hh ?_) rfl;lk;exact h1 y
 ·exists hl,lp
 ·rename_i y x;exact h3 y (by have:=lu x;rw[lp]at this;exact this)
 rename_i y x
 have x:=of_decide_eq_false x
 rw[lp]at x
 refine aT (T7 (P:=(·=q)) pr hC rfl hA hh fun jb o1 C1=>?_) rfl
 have J1:=Je.only o1 hz.2
 have k1:=o1.at e1 hz.2
 have k2:=o1.at e2 hz.2
 have k3:=o1.at e3 hz.2
 obtain⟨Ws,ba,B,oJ,-,-,-,-,-⟩:=C1.buf (j7 ..)
 clear f1 f2 g1 e1 e2 e3
 obtain⟨f1,f2⟩:=id B
 have n1:=neT k1 k2 rfl
 have n2:=neT k1 k3 rfl
 have n3:=neT k2 k3 rfl
 have n4:=iF k3 f1 hz.2
 have n5:=iF k2 f1 hz.2
 lk
 ·exists hl,lp
 ·exists hl,Wt
 ·exists hl,lp
 rename_i dp'
 have o2:aF (fun x=>x=z) jb (upd (upd jb nd ((z,2,0),.dict (f9 es n (.int J.ab.length)) dp')) l ((z,1,0),.list (J.ab.map LV.int++[.int n]))):=by refine((aF.refl (fun x=>x=z) jb).upd k3 ?_ ?_).upd ((av _ _ n3).trans k2) ?_ ?_<;>rfl
 rw[lp]
 refine h2 y %[|x] _ ((o1.mono fun _ e=>e▸eV).trans (o2.mono fun _ e=>e▸hP)) (C1.only o2 hz.1.symm hz.2.symm) ⟨?_,he,dx,l,nd,_,dp',by da_tab,?_,by da_tab,FL e4 y _⟩
 ·show(J.ab++[n]).length≤1000;rw[dv];simp;exists hm,x
 rw[aI,bZ];rfl
end
open JL
noncomputable def Ai(v:Int):bc:=[v.toNat.toUInt8,0,0,0]
noncomputable def dI(vs:List Int):bc:=vs.flatMap Ai
noncomputable def br(ab:List Int)(s:Int):bc:=dI ((ab.length:Int)::ab)++List.replicate (s-4*(ab.length+1)).toNat 0
theorem lP(vs:List Int):(dI vs).length=4*vs.length:=by
 unfold dI
 induction vs with
 |nil=>rfl
 |cons v r ih=>rewrite [List.flatMap_cons,dv,ih,gH];show 4+_=_;room
theorem oK(ab:List Int){s:Int}(h:4*((ab.length:Int)+1)≤s):((br ab s).length:Int)=s:=by
 unfold br
 rw[dv,lP,rC,gH];(have w0:=Ln.fT (s-4*(↑ab.length+1));revert h w0;room)
theorem Ud{v:Int}(h0:0≤v)(h1:v<256)(i:Nat):Builtin.bitAnd (v.fdiv (2 ^ (8*(0+(i:Int)*1)).toNat)) 255=if i=0 then v else 0:=by
 have e:(8*(0+(i:Int)*1)).toNat=8*i:=by(have w0:=Ln.fT (8*(0+↑i*1));revert w0;room)
 rw[e]
 have p8:(256:Int)≤2 ^ (8*(i+1)):=by
  have:2 ^ 8≤2 ^ (8*(i+1)):=Nat.pow_le_pow_right %[|0] (by room)
  exact_mod_cast this
 cases i with
 |zero =>
  rw[bh rfl];show Builtin.bitAnd (v.fdiv 1) 255=v;rw[Int.fdiv_one];unfold Builtin.bitAnd;rw[ia h0];show((v.toNat &&& 2 ^ 8-1:Nat):Int)=v;rw[Nat.and_two_pow_sub_one_eq_mod,Nat.mod_eq_of_lt (by(have w0:=Ln.fT (v);revert h1 w0;room))];(have w0:=Ln.fT (v);revert h0 w0;room)
 |succ k =>
  have q8:(256:Int)≤2 ^ (8*(k+1)):=by
   have:2 ^ 8≤2 ^ (8*(k+1)):=Nat.pow_le_pow_right %[|0] (by room)
   exact_mod_cast this
  rw[aY (by room),Int.fdiv_eq_ediv_of_nonneg _ %[|q8],Int.ediv_eq_zero_of_lt h0 %[h1|q8]];rfl
theorem PZ{v:Int}:mA ((List.range 4).map fun i=>if i=0 then v else 0)=Ai v:=rfl
theorem g7.new(h:g7 σ v vs){c:Tag×LO}(e:σ a=none):g7 (upd σ a c) v vs:=by
 rcases h with(h|⟨b,t,h1,h2⟩)|h
 ·exact .inl (.inl h)
 ·exact .inl (.inr ⟨b,t,h1,(av _ _ (neN h2 e)).trans h2⟩)
 exact .inr h
section
variable {G:Gd}{σ:St}{Q:LV→St→Prop}{ep:EP}{P:Nat→Prop}
theorem P0:∀ {v:LV} {ab:List Int} {s:Int} (pr:Pr G) (hP:P 0) (hl:g7 σ v (ab.map .int)) (h0:∀n∈ab,0≤n∧n<256) (h1:ab.length<200) (h2:4*((ab.length:Int)+1)≤s) (h3:s≤1000) (h:∀σ',aF P σ σ'→Q (.bX (br ab s)) σ'),CallT 1 b0 (.ref 102) G σ Q [v,.int s]:=by
 law_purse 0 =>
 revert G σ Q P
 rintro G σ Q P v ab s:(_)
 w_up
 have lp:(ab.map LV.int).length=ab.length:=bB ..
 wtm_at "Zk b0 c|numbers size"
 rintro cx aa L:(_)
 intro F1 F2 F3 F4 F5 F6
 lk
 refine nE hl %[h1|lp] ?_
 rw[lp]
 lk
 refine CS (t:=(0,0,0)) ?_
 rintro f:(_)
 intro hf
 lk
 have EM:(ab.length:Int)+1≤200:=by exists h1
 refine gW F2 (by intro _;with_unfolding_all rfl) (tR rfl ?_)
 lk
 refine nE (hl.new hf) %[h1|lp] ?_
 rw[lp]
 lk
 refine bu ?_
 lk
 refine mz (hl.new hf) %[h1|lp] (bu ?_)
 lk
 refine g8 (.inl rfl) (.inl rfl) ?_ (bu ?_)
 ·simp;exists h1
 have qm:∀n∈(ab.length:Int)::ab,0≤n∧n<256:=fun n hn=>(eb hn).elim (fun e=>e▸⟨by room,by exists h1⟩) (h0 n)
 have Jf:((ab.length:Int)::ab).length=ab.length+1:=rfl
 refine px (aw:=((ab.length:Int)::ab).map .int) (gV (fun i aC ae=>aC "found"=some (.ref f)∧aC "size"=some (.int s)∧ae=upd σ f ((0,0,0),.eM (dI (((ab.length:Int)::ab).take i)))) ⟨rfl,rfl,rfl⟩ ⟨?_,?_⟩)
 ·rintro its i' v aC ae:(_);rintro hv eI ⟨k1,k2,rfl⟩:_;refine Lake.ex1 (dj hv) ?_;rintro x:(_);rintro⟨hx,rfl⟩:_;obtain⟨x0,x1⟩:=qm x (eF hx);have Wu:(((ab.length:Int)::ab).take i').length≤200:=by rw[iM];(have w0:=Ln.gm (i') ((↑ab.length::ab).length);revert h1 Jf w0;room)
  refine cL ?_;lk;refine ri F1 F4 F5 (by f_are) (by k_in) (by intro _;with_unfolding_all rfl) ?_;lk;refine mH (by unfold bL;simp) (fun i aR ae=>ae=upd σ f ((0,0,0),.eM (dI (((ab.length:Int)::ab).take i')))∧aR=((List.range i).map fun k=>if k=0 then x else 0).map .int) ⟨rfl,rfl⟩ ⟨?_,?_⟩
  ·rintro c' ij G1 G5 k w aR ae hw - ⟨rfl,rfl⟩:_;obtain⟨hk,rfl⟩:=fW hw;have hb:k<4:=hk;have fV:(0:Int)+(k:Int)*1≤4:=by exists hb
   refine cL ?_;lk;refine⟨trivial,rfl,?_⟩;rw[Ud x0 x1,List.range_succ,bZ,bZ];rfl
  rintro aR ae - ⟨rfl,rfl⟩:_;refine bu ?_;lk;refine lX (.inl rfl) ?_ (by simp[bL]) ?_
  ·intro n hn;obtain⟨k,-,rfl⟩:=gB hn;split<;>(first|exact⟨x0,x1⟩|decide)
  rw[show(bL 0 1 (4:Int).toNat).length=4 from rfl,PZ];lk
  ·rw[lP];show _+4≤_;exists Wu
  rw[tB];refine⟨trivial,by k_ne,by k_ne,?_⟩;rw[c8 hx];unfold dI;rw[List.flatMap_append,List.flatMap_singleton]
 rintro aC ae - ⟨k1,k2,rfl⟩:_
 rw[bB,Jf,oR %[|Jf]]
 have FO:=lP ((ab.length:Int)::ab)
 rw[Jf]at FO
 lk
 ·exists h1,FO
 ·exists h1,FO
 rw[FO]
 refine pn %[|h2] %[|h3] ?_
 lk
 refine uy (by rw[rC];(have w0:=Ln.fT (s - ↑(4*(ab.length+1)));revert h1 h3 FO w0;room)) ?_
 lk
 have:=h _ ((aF.refl P σ).new (c:=((0,0,0),.eM (dI ((ab.length:Int)::ab)))) hf hP)
 unfold br at this
 have e:(s-((4*(ab.length+1):Nat):Int)).toNat=(s-4*((ab.length:Int)+1)).toNat:=by(have w0:=Ln.fT (s - ↑(4*(ab.length+1)));have w1:=Ln.fT (s-4*(↑ab.length+1));revert w0 w1;room)
 rw[e]
 exact this
end
open JL
theorem xJ(vs:List Int)(i:Nat):(dI vs).drop (4*i)=dI (vs.drop i):=by
 induction vs generalizing i with
 |nil=>simp[dI]
 |cons v r ih =>
  cases i with
  |zero=>rfl
  |succ k =>
   rw[List.drop_succ_cons,← ih k];show(Ai v++dI r).drop (4*(k+1))=_;rw[show 4*(k+1)=(Ai v).length+4*k by show _=4+_;room,List.drop_append,List.drop_of_length_le (by room),nil_append];congr 1;(have w0:=Ln.fS ((Ai v).length+4*k) ((Ai v).length);revert w0;room)
theorem HO:∀ {vs:List Int} {i:Nat} {v:Int} (h:vs[i]?=some v),f7 (dI vs) (some (0+(i:Int)*4)) (some (0+(i:Int)*4+4))=Ai v:=by
 rintro vs i v:(_)
 w_up
 have hi:i<vs.length:=(List.getElem?_eq_some_iff.mp h).1
 have hl:=lP vs
 unfold f7
 have e1:clipAt (dI vs).length (0+(i:Int)*4)=4*i:=by unfold clipAt;rw[aY (by room)];(have w0:=Ln.fT (max 0 (min (0+↑i*4) ↑(dI vs).length));have w1:=Ln.fM (0) (min (0+↑i*4) ↑(dI vs).length);have w2:=Ln.fm (0+↑i*4) (↑(dI vs).length);revert hi hl w0 w1 w2;room)
 have e2:clipAt (dI vs).length (0+(i:Int)*4+4)=4*i+4:=by unfold clipAt;rw[aY (by room)];(have w0:=Ln.fT (max 0 (min (0+↑i*4+4) ↑(dI vs).length));have w1:=Ln.fM (0) (min (0+↑i*4+4) ↑(dI vs).length);have w2:=Ln.fm (0+↑i*4+4) (↑(dI vs).length);revert hi hl w0 w1 w2;room)
 simp only[Option.elim,e1,e2]
 rw[xJ,show 4*i+4-4*i=4 by(have w0:=Ln.fS (4*i+4) (4*i);revert w0;room)]
 have:vs.drop i=v::vs.drop (i+1):=by rw[mY hi,(List.getElem?_eq_some_iff.mp h).2]
 rw[this];rfl
theorem Wv{v:Int}(h0:0≤v)(h1:v<256):Builtin.bitOr (0*2 ^ (8:Int).toNat) v.toNat.toUInt8.toNat=v:=by
 have:∀k:Fin 256,Builtin.bitOr 0 (k.val.toUInt8.toNat:Nat)=(k.val:Int):=by decide +kernel
 have:=this ⟨v.toNat,by(have w0:=Ln.fT (v);revert h1 w0;room)⟩
 rw[Int.zero_mul,this]
 exact Int.toNat_of_nonneg h0
theorem DG(ab:List Int){s:Int}(h:4*((ab.length:Int)+1)≤s)(h4:s%4=0):br ab s=dI ((ab.length:Int)::(ab++List.replicate (s/4-(ab.length+1)).toNat 0)):=by
 have e:∀m:Nat,dI (List.replicate m 0)=List.replicate (4*m) 0:=fun m=>by
  induction m with
  |zero=>rfl
  |succ k ih =>
   rw[m8,show 4*(k+1)=4*k+1+1+1+1 by room,m8,m8,m8,m8,← ih];rfl
 have e2:∀a b:List Int,dI (a++b)=dI a++dI b:=fun a b=>List.flatMap_append ..
 unfold br
 rw[← List.cons_append,e2,e]
 congr 2;(have w0:=Ln.fr (s) (4);have w1:=Ln.fT (s-4*(↑ab.length+1));have w2:=Ln.fT (s/4-(↑ab.length+1));revert h4 w0 w1 w2;room)
section
variable {G:Gd}{σ:St}{Q:LV→St→Prop}{ep:EP}{P:Nat→Prop}
theorem HP:∀ {vs:List Int} (pr:Pr G) (hP:P 0) (h0:∀n∈vs,0≤n∧n<256) (h1:1≤vs.length) (h2:vs.length≤250) (h:∀σ' f,aF P σ σ'→σ' f=some ((0,0,0),.list (vs.map .int))→Q (.ref f) σ'),CallT 1 b0 (.ref 109) G σ Q [.bX (dI vs)]:=by
 law_purse 0 =>
 revert G σ Q P
 rintro G σ Q P vs:(_)
 w_up
 have hl:=lP vs
 wtm_at "fnK b0|octets"
 rintro cx aa:(_)
 intro F1 F2 F3
 lk
 refine iu (0,0,0) ?_
 rintro f:(_)
 intro hf
 lk
 refine gW F2 (by intro _;with_unfolding_all rfl) ?_
 lk
 ·exists h2,hl
 refine PB %[h1|hl] %[h2|hl] ?_
 have hc:((((dI vs).length:Int)-4+1+3)/4).toNat=vs.length:=by(have w0:=Ln.fT ((↑(dI vs).length-4+1+3)/4);have w1:=Ln.fd (↑(dI vs).length-4+1+3) (4) %[|0];revert hl w0 w1;room)
 rw[hc]
 refine gV (fun i aC ae=>aC "octets"=some (.bX (dI vs))∧aC "found"=some (.ref f)∧ae=upd σ f ((0,0,0),.list ((vs.take i).map .int))) ⟨rfl,rfl,rfl⟩ ⟨?_,?_⟩
 ·rintro its i v aC ae:(_);rintro hv eI ⟨k1,k2,rfl⟩:_;obtain⟨hi,rfl⟩:=fW hv;obtain⟨x,hx⟩:∃x,vs[i]?=some x:=⟨vs[i],List.getElem?_eq_getElem hi⟩;obtain⟨x0,x1⟩:=h0 x (eF hx);refine cL ?_;lk;refine gW F2 (by intro _;with_unfolding_all rfl) ?_;lk;refine ic rfl rfl %[h2|hl] ?_;rw[HO hx];lk;refine Tz (by show 4≤10000;decide) ?_;refine gV (fun j aC ae=>aC "octets"=some (.bX (dI vs))∧aC "found"=some (.ref f)∧aC "value"=some (.int (if j=4 then x else 0))∧ae=upd σ f ((0,0,0),.list ((vs.take i).map .int))) ⟨by k_ne,by k_ne,rfl,rfl⟩ ⟨?_,?_⟩
  ·rintro its j w cz ae hw - ⟨k1,k2,k3,rfl⟩:_;obtain⟨hj,rfl⟩:=sm _ _ _ hw;have hj:j<4:=hj;rw[aY %[|hj]]at k3;refine cL ?_;lk;refine OW ?_ %[|0] %[|0];lk;refine⟨trivial,by k_ne,by k_ne,?_,rfl⟩;by_cases q:j=3
   ·subst q;show some (LV.int (Builtin.bitOr (0*2 ^ (8:Int).toNat) x.toNat.toUInt8.toNat))=_;rw[Wv x0 x1];rfl
   rw[aY %[|q]];have:j=0∨j=1∨j=2:=by exists hj,q
   rcases this with rfl|rfl|rfl<;>exact congrArg (fun z=>some (LV.int z)) (by decide +kernel:Builtin.bitOr (0*2 ^ (8:Int).toNat) ((0:Nat):Int)=0)
  rintro cz ae - ⟨k1,k2,k3,rfl⟩:_;have k3:cz "value"=some (.int x):=k3;lk
  ·rw[bB,iM];(have w0:=Ln.gm (i) (vs.length);revert h2 w0;room)
  rw[tB];refine⟨trivial,by k_ne,by k_ne,?_⟩;rw[c8 hx,bZ];rfl
 rintro aC ae - ⟨k1,k2,rfl⟩:_
 rw[show(bL 0 4 vs.length).length=vs.length from iD,ib]
 lk
 exact h _ f ((aF.refl P σ).new hf hP) (aI ..)
theorem Qa:∀ {ab:List Int} {s ay:Int} (pr:Pr G) (hP:P 0) (h0:∀n∈ab,0≤n∧n<256) (h2:4*((ab.length:Int)+1)≤s) (h4:s%4=0) (h3:s≤400) (h5:(ab.length:Int)≤ay) (h:∀σ',aF P σ σ'→Q (.fl (ab.map .int)) σ'),CallT 2 b0 (.ref 116) G σ Q [.bX (br ab s),.int ay]:=by
 law_purse 0 =>
 revert G σ Q P
 rintro G σ Q P ab s ay:(_)
 w_up
 rw[DG ab h2 h4]
 have hlen:((ab.length:Int)::(ab++List.replicate (s/4-(ab.length+1)).toNat 0)).length=(s/4).toNat:=by rw[gH,dv,rC];(have w0:=Ln.fT (s/4-(↑ab.length+1));have w1:=Ln.fd (s) (4) %[|0];have w2:=Ln.fT (s/4);revert h2 w0 w1 w2;room)
 wtm_at "fnK b0|octets most"
 rintro cx aa:(_)
 intro F1 F2 F3
 lk
 refine aT (HP (P:=P) pr hP ?_ (by rw[hlen];(have w0:=Ln.fT (s/4);have w1:=Ln.fd (s) (4) %[|0];revert h2 w0 w1;room)) (by rw[hlen];(have w0:=Ln.fT (s/4);have w1:=Ln.fd (s) (4) %[|0];revert h3 w0 w1;room)) fun jb f o1 hf=>?_) rfl
 ·intro n hn;rcases eb hn with e0|hn
  ·subst n;exact⟨by room,by exists h2,h3⟩
  rcases eG hn with hn|hn
  ·exact h0 n hn
  rw[(List.mem_replicate.mp hn).2];decide
 have hm:(((ab.length:Int)::(ab++List.replicate (s/4-(ab.length+1)).toNat 0)).map LV.int).length=(s/4).toNat:=by rw[bB,hlen]
 lk
 ·(have w0:=Ln.fd (s) (4) %[|0];have w1:=Ln.fT (s/4);revert h3 hm w0 w1;room)
 ·(have w0:=Ln.fd (s) (4) %[|0];have w1:=Ln.fT (s/4);revert h3 hm w0 w1;room)
 refine kL (x:=some 1) (y:=some (1+ab.length)) (.inl (.inr ⟨_,_,rfl,hf⟩)) rfl rfl (by(have w0:=Ln.fd (s) (4) %[|0];have w1:=Ln.fT (s/4);revert h3 hm w0 w1;room)) (bu ?_)
 have e:f7 (((ab.length:Int)::(ab++List.replicate (s/4-(ab.length+1)).toNat 0)).map LV.int) (some 1) (some (1+ab.length))=ab.map LV.int:=by
  unfold f7;have e1:clipAt (((ab.length:Int)::(ab++List.replicate (s/4-(ab.length+1)).toNat 0)).map LV.int).length 1=1:=by rw[hm];unfold clipAt;rw[aY (by room)];exact(Ln.clip _ _).trans (Nat.min_eq_left (by(have w0:=Ln.fT (s/4);have w1:=Ln.fd s 4 %[|0];revert h2 w0 w1;room)))
  have e2:clipAt (((ab.length:Int)::(ab++List.replicate (s/4-(ab.length+1)).toNat 0)).map LV.int).length (1+ab.length)=1+ab.length:=by rw[hm];unfold clipAt;rw[aY (by room)];(have w0:=Ln.fT (max 0 (min (1+↑ab.length) ↑(s/4).toNat));have w1:=Ln.fM (0) (min (1+↑ab.length) ↑(s/4).toNat);have w2:=Ln.fm (1+↑ab.length) (↑(s/4).toNat);have w3:=Ln.fT (s/4);have w4:=Ln.fd (s) (4) %[|0];revert h2 w0 w1 w2 w3 w4;room)
  simp only[Option.elim,e1,e2];rw[ew,List.drop_succ_cons,drop_zero,bZ,Nat.add_sub_cancel_left,List.take_append_of_le_length (by simp),oR (by simp)]
 rw[e]
 lk
 exact h _ o1
end
open JL
set_option genInjectivity true in
set_option genCtorIdx true in
inductive Op where
 |wr (n:Int) (b:bc)
 |fl
 deriving Nonempty
noncomputable def bH:aE→List Op→Option aE
 |D,[]=>some D
 |D,.wr n b::r=>if cG D.last D.writes then none else bH (D.wr n b) r
 |D,.fl::r=>if cG D.bl D.bj then none else bH D.fl r
noncomputable def dN:aE→List Op→aE
 |D,[]=>D
 |D,.wr n b::r=>if cG D.last D.writes then D.ju else dN (D.wr n b) r
 |D,.fl::r=>if cG D.bl D.bj then D.ju else dN D.fl r
theorem ej{D:aE}{b:bc}{r:List Op}:bH D (.wr n b::r)=if cG D.last D.writes then none else bH (D.wr n b) r:=rfl
theorem ek{D:aE}{r:List Op}:bH D (.fl::r)=if cG D.bl D.bj then none else bH D.fl r:=rfl
theorem cN(a b:List Op):∀D,bH D (a++b)=(bH D a).bind fun D1=>bH D1 b:=by
 induction a with
 |nil=>intro D;rfl
 |cons x r ih =>
  intro D;cases x with
  |wr n c =>
      show(if _ then _ else bH _ (r++b))=Option.bind (if _ then _ else bH _ r) _;split
      ·rfl
      exact ih _
  |fl =>
      show(if _ then _ else bH _ (r++b))=Option.bind (if _ then _ else bH _ r) _;split
      ·rfl
      exact ih _
theorem kX(a b:List Op):∀ {D D1},bH D a=some D1→dN D (a++b)=dN D1 b:=by
 induction a with
 |nil=>intro D D1 h;cases h;rfl
 |cons x r ih =>
  intro D D1 h;cases x with
  |wr n c =>
   first|rw[ej]at h|rw[ek]at h
   split at h
   ·cases h
   rename_i z;show(if _ then _ else dN _ (r++b))=_;rw[aY z];exact ih h
  |fl =>
   first|rw[ej]at h|rw[ek]at h
   split at h
   ·cases h
   rename_i z;show(if _ then _ else dN _ (r++b))=_;rw[aY z];exact ih h
theorem jt(a b:List Op):∀ {D},bH D a=none→dN D (a++b)=dN D a:=by
 induction a with
 |nil=>intro D h;cases h
 |cons x r ih =>
  intro D h;cases x with
  |wr n c =>
   show(if _ then _ else dN _ (r++b))=if _ then _ else dN _ r
   first|rw[ej]at h|rw[ek]at h
   split at h
   ·rename_i z;rw[bh z,bh z]
   rename_i z;rw[aY z,aY z];exact ih h
  |fl =>
   show(if _ then _ else dN _ (r++b))=if _ then _ else dN _ r
   first|rw[ej]at h|rw[ek]at h
   split at h
   ·rename_i z;rw[bh z,bh z]
   rename_i z;rw[aY z,aY z];exact ih h
theorem uC{ops:List Op}{x:Op}{D D1:aE}(hx:ops[i]?=some x)(h:bH D (ops.take i)=some D1):bH D (ops.take (i+1))=bH D1 [x]∧(bH D1 [x]=none→bH D ops=none∧dN D ops=dN D1 [x]):=by
 have hi:i<ops.length:=(List.getElem?_eq_some_iff.mp hx).1
 refine⟨by rw[c8 hx,cN,h];rfl,fun k=>?_⟩
 have e:ops=ops.take i++([x]++ops.drop (i+1)):=by
  have:ops.drop i=x::ops.drop (i+1):=by rw[mY hi,(List.getElem?_eq_some_iff.mp hx).2]
  rw[List.singleton_append,← this,m7]
 rw[e,cN,h,kX _ _ h]
 refine⟨?_,jt _ _ k⟩
 show bH D1 ([x]++ops.drop (i+1))=none
 rw[cN,k];rfl
structure NB(D D':aE):Prop where
 aQ:D'.aQ=D.aQ
 size:D'.size=D.size
 cj:D'.cj=D.cj
 last:D'.last=D.last
 bl:D'.bl=D.bl
theorem eK(ops:List Op):∀ {D D'},bH D ops=some D'→NB D D':=by
 induction ops with
 |nil=>intro D D' h;cases h;exact⟨rfl,rfl,rfl,rfl,rfl⟩
 |cons x r ih =>
  intro D D' h;cases x with
  |wr n c =>
   first|rw[ej]at h|rw[ek]at h
   split at h
   ·cases h
   have:=ih h;exact⟨this.1,this.2,this.3,this.4,this.5⟩
  |fl =>
   first|rw[ej]at h|rw[ek]at h
   split at h
   ·cases h
   have:=ih h;exact⟨this.1,this.2,this.3,this.4,this.5⟩
noncomputable def hU(af:Int)(au:Int→bc)(ab:List Int):List Op:=ab.zipIdx.map fun p=>Op.wr (af+1+(p.2:Int)) (au p.1)
noncomputable def cQ(au:Int→bc)(ab:List Int):List Op:=ab.map fun n=>Op.wr n (au n)
theorem DH(h:ab[i]?=some n):(hU af au ab)[i]?=some (.wr (af+1+i) (au n)):=by
 unfold hU
 rw[List.getElem?_map,List.getElem?_zipIdx,h];simp
theorem pX{D:aE}{b:bc}(h:cG D.last D.writes=true):bH D [.wr n b]=none∧dN D [.wr n b]=D.ju:=⟨bh h,bh h⟩
theorem tD{D:aE}{b:bc}(h:cG D.last D.writes=false):bH D [.wr n b]=some (D.wr n b):=aY (by rw[h];decide)
theorem BJ{D:aE}(h:cG D.bl D.bj=true):bH D [.fl]=none∧dN D [.fl]=D.ju:=⟨bh h,bh h⟩
theorem BK{D:aE}(h:cG D.bl D.bj=false):bH D [.fl]=some D.fl:=aY (by rw[h];decide)
section
variable {G:Gd}{σ:St}{Q:LV→St→Prop}{ep:EP}{o q z:Nat}{c d j:Addr}{ay:Int}{D:aE}{aJ:Act}{cnt w:Nat}{P:Nat→Prop}{J:AJ}{au:Int→bc}
theorem uD{ops:List Op}{D0:aE}(pr:Pr X.G)(hn:6≤X.n)(hC:aS o q ay c d w D σ cnt aJ)(eJ:P o)(hw:w≤8000)(hd:D.cj=false)(h0:bH D0 ops=some D)
 (h:∀D' σ',bH D0 (ops++[.fl])=some D'→aF P σ σ'→aS o q ay c d (w+1) D' σ' cnt aJ→Q .none σ')
 (hc:bH D0 (ops++[.fl])=none→∀σ',aF P σ σ'→gp σ' o q c d (dN D0 (ops++[.fl]))→ep.Q 95 σ'):bV σ X ep Q [.ref c] (.ref 397):=by
 have e:bH D0 (ops++[.fl])=bH D [.fl]:=by rw[cN,h0];rfl
 rw[e]at h hc
 rw[kX _ _ h0]at hc
 exact fu (Nv pr hC eJ hw hd (fun hr σ' h1 h2=>h _ σ' (BK hr) h1 h2) fun hr σ' h1 h2=>hc (BJ hr).1 σ' h1 (by rw[(BJ hr).2];exact h2)) (Nat.ble_eq_true_of_le hn)
theorem Qb:∀(pr:Pr G) (hC:aS o q ay c d w D σ cnt aJ) (hJ:eU j c z σ J) (hz:z≠o∧z≠q) (eJ:P o) (eV:P q) (hw:w+3*J.ab.length≤7000) (hd:D.cj=false) (gO:(cnt:Int)<ay) (zw:∀n∈J.ab,∃A,aJ n=some A∧A.b=au n) (Ue:∀i:Nat,i<J.ab.length→aJ (J.af+1+i)=none∧0≤J.af+1+i∧J.af+1+i<D.aQ) (h:∀D' σ',bH D (hU J.af au J.ab++[.fl])=some D'→aF P σ σ'→aS o q ay c d (w+3*J.ab.length+1) D' σ' cnt aJ→Q .none σ') (hc:bH D (hU J.af au J.ab++[.fl])=none→∀σ',aF P σ σ'→gp σ' o q c d (dN D (hU J.af au J.ab++[.fl]))→ep.Q 95 σ'),CallT 9 ⟨false,ep.Q⟩ (.ref 187) G σ Q [.ref j]:=by
 law_purse 0 =>
 revert G σ Q ep o q z c d j ay D aJ cnt w P J au
 rintro G σ Q ep o q z c d j ay D aJ cnt w P:(_)
 rintro J au:(_)
 w_up
 have lq:∀x,(x=o∨x=q)→P x:=fun x y=>y.elim (fun e=>e▸eJ) fun e=>e▸eV
 have fH:¬(z=o∨z=q):=fun y=>y.elim hz.1 hz.2
 obtain⟨hl,he,dx,l,nd,es,dp,e1,e2,e3,e4⟩:=id hJ
 have hlen:(cI (J.ab.map LV.int)).length=J.ab.length:=by rw[gK,bB]
 have FP:(hU J.af au J.ab).length=J.ab.length:=by unfold hU;simp
 wtm_at "fnK ep|self"
 rintro cx aa:(_)
 intro F1 F2 F3
 lk
 refine gW F2 (by intro _;with_unfolding_all rfl) ?_
 lk
 refine Dl e2 (gV (fun i aC ae=>aC "self"=some (.ref j)∧∃Di,bH D ((hU J.af au J.ab).take i)=some Di∧aF (fun x=>x=o∨x=q) σ ae∧aS o q ay c d (w+3*i) Di ae cnt aJ) ⟨rfl,D,rfl,.refl _ σ,hC⟩ ⟨?_,?_⟩)
 ·rintro its i v aC ae:(_);rintro hv eI ⟨k1,Di,r1,o1,C1⟩:_;obtain⟨y,hy,rfl⟩:=nM hv;obtain⟨n,hn,rfl⟩:=dj hy;have hi:i<J.ab.length:=(List.getElem?_eq_some_iff.mp hn).1;obtain⟨A,hA,Rh⟩:=zw n (eF hn);obtain⟨g1,g2,g3⟩:=Ue i hi;have S:=eK _ r1;have xG:=o1.at e1 fH;obtain⟨_,_,_,BL,_,_,_,n0,n1⟩:=C1.buf hA;obtain⟨kW,r,bn,m1,m2,m3,c1⟩:=C1.cell;obtain⟨x1,x2⟩:=uC (DH hn) r1;lk;refine aT (vX (P:=fun x=>x=o∨x=q) pr C1 (.inr rfl) %[hw|hi] (S.cj.trans hd) n0 n1 (fun y=>by nomatch hA,y) fun dP o3 C3=>?_) rfl;have qJ:cont aJ Di n=au n:=by unfold cont;rw[hA];exact Rh
  rw[qJ];rw[Rh]at BL;lk;refine fu (DE (P:=fun x=>x=o∨x=q) pr C3 (.inr rfl) (.inl rfl) %[hw|hi] (S.cj.trans hd) g2 (by rw[S.aQ];exact g3) (fun _=>gO) BL (fun hr dG o4 C4=>?_) fun hr dG o4 xK=>?_) rfl
  ·lk;rw[g1,Option.map_none,← g1,nN]at C4;refine⟨⟨_,(((o1.trans o3).trans o4).at e2 fH)⟩,by k_ne,_,x1.trans (tD hr),(o1.trans o3).trans o4,?_⟩;rw[show w+3*(i+1)=w+3*i+3 by room];exact C4
  obtain⟨x3,x4⟩:=x2 (pX hr).1;refine hc (by rw[cN,x3];rfl) dG (((o1.trans o3).trans o4).mono lq) ?_;rw[jt _ _ x3,x4,(pX hr).2];exact xK
 rintro aC ae - ⟨k1,Di,r1,o1,C1⟩:_
 rw[hlen,← FP,ib]at r1
 rw[hlen]at C1
 have xG:=o1.at e1 fH
 obtain⟨kW,r,bn,m1,m2,m3,c1⟩:=C1.cell
 have S:=eK _ r1
 lk
 refine uD (P:=P) pr (jy rfl) C1 eJ %[|hw] (S.cj.trans hd) r1 (fun D' σ' r2 o2 C2=>?_) fun r2 σ' o2 jc=>hc r2 σ' ((o1.mono lq).trans o2) jc
 lk
 exact h D' σ' r2 ((o1.mono lq).trans o2) C2
end
open JL
structure Own(o q z:Nat):Prop where
 o2:2≤o
 q2:2≤q
 z2:2≤z
 zo:z≠o
 zq:z≠q
theorem vY(h:ab[i]?=some n):(cQ au ab)[i]?=some (.wr n (au n)):=by
 unfold cQ
 rw[List.getElem?_map,h];rfl
theorem KO{K:List LV→(St→Prop)→St→Prop}{l:Addr}(P:Nat→Prop)(hv:v=.fl aw∨v=.ref l∧σ l=some (t,.list aw)∧¬P t.1)(h:∀src:St→Prop,(∀σ',aF P σ σ'→src σ')→K (cI aw) src σ):zS K v σ:=by
 rcases hv with rfl|hK
 ·exact IF (h _ fun _ _=>trivial)
 obtain⟨rfl,e,n⟩:=hK
 exact Dl e (h _ fun _ k=>⟨_,k.at e n⟩)
section
variable {G:Gd}{σ:St}{Q:LV→St→Prop}{ep:EP}{o q z:Nat}{c d j:Addr}{ay:Int}{D:aE}{aJ:Act}{cnt w:Nat}{P:Nat→Prop}{J:AJ}{au:Int→bc}
theorem DI:∀ {G:Gd} {ep:EP} {o q z:Nat} {c d j:Addr} {ay:Int} {aJ:Act} {cnt:Nat} {P:Nat→Prop} {J:AJ} {σ:St} {Q:LV→St→Prop} {D:aE} {w:Nat} {v:LV} {ab:List Int} {l:Addr} {t:Tag} (pr:Pr G) (hC:aS o q ay c d w D σ cnt aJ) (hJ:eU j c z σ J) (W:Own o q z) (jO:P 0) (eJ:P o) (eV:P q) (hw:w≤7000) (hd:D.cj=false) (gO:(cnt:Int)<ay) (hv:v=.fl (ab.map .int)∨v=.ref l∧σ l=some (t,.list (ab.map .int))∧¬t.1=0) (hn:∀n∈ab,0≤n∧n<256) (h1:ab.length<200) (h2:4*((ab.length:Int)+1)≤D.size) (hs:aJ J.af=none∧0≤J.af∧J.af<D.aQ) (h:∀D' σ',bH D [.wr J.af (br ab D.size),.fl]=some D'→aF P σ σ'→aS o q ay c d (w+4) D' σ' cnt aJ→Q .none σ') (hc:bH D [.wr J.af (br ab D.size),.fl]=none→∀σ',aF P σ σ'→gp σ' o q c d (dN D [.wr J.af (br ab D.size),.fl])→ep.Q 95 σ'),CallT 9 ⟨false,ep.Q⟩ (.ref 194) G σ Q [.ref j,v]:=by
 law_purse 0 =>
 rintro G ep o q z c d j ay aJ cnt P J σ Q D w v ab l:(_)
 rintro t:(_)
 w_up
 have ok:=hC.2.2.1
 have FK:=ok.s1
 have w1:=W.o2
 have w2:=W.q2
 have w3:=W.z2
 obtain⟨hl,he,dx,l',nd,es,dp,e1,e2,e3,e4⟩:=id hJ
 obtain⟨kW,r,bn,m1,m2,m3,c1⟩:=hC.cell
 have Ug:g7 σ v (ab.map .int):=hv.elim (fun e=>.inl (.inl e)) fun bR=>by obtain⟨a,b,_⟩:=bR;exact .inl (.inr ⟨_,_,a,b⟩)
 wtm_at "fnK ep|self numbers"
 rintro cx aa:(_)
 intro F1 F2 F3
 lk
 refine aT (P0 (P:=fun x=>x=0) pr rfl Ug hn h1 h2 FK fun jb o1=>?_) rfl
 have C1:=hC.only o1 %[|w1] %[|w2]
 have xG:=o1.at e1 (by show ¬z=0;exists w3)
 lk
 refine fu (DE (P:=fun x=>x=o∨x=q) pr C1 (.inr rfl) (.inl rfl) %[|hw] hd hs.2.1 hs.2.2 (fun _=>gO) (oK ab h2) (fun hr dG o4 C4=>?_) fun hr dG o4 xK=>?_) rfl
 ·rw[hs.1,Option.map_none,← hs.1,nN]at C4;have Uh:=o4.at xG (by show ¬(z=o∨z=q);have z1:=W.zo;have z2:=W.zq;exists z1,z2);obtain⟨kW,r,bn,m1,m2,m3,c1⟩:=C4.cell;lk;refine uD (P:=P) (D0:=D) (ops:=[.wr J.af (br ab D.size)]) pr (jy rfl) C4 eJ %[|hw] hd (tD hr) (fun D' σ' r2 o2 C2=>?_) fun r2 σ' o2 jc=>hc r2 σ' (((o1.mono fun _ y=>y▸jO).trans (o4.mono fun x y=>y.elim (fun e=>e▸eJ) fun e=>e▸eV)).trans o2) jc;lk;exact h D' σ' r2 (((o1.mono fun _ y=>y▸jO).trans (o4.mono fun x y=>y.elim (fun e=>e▸eJ) fun e=>e▸eV)).trans o2) C2
 obtain⟨x3,x4⟩:=pX (D:=D) (n:=J.af) (b:=br ab D.size) hr
 refine hc (by show bH D ([.wr J.af (br ab D.size)]++[.fl])=none;rw[cN,x3];rfl) dG ((o1.mono fun _ y=>y▸jO).trans (o4.mono fun x y=>y.elim (fun e=>e▸eJ) fun e=>e▸eV)) ?_
 show gp dG o q c d (dN D ([.wr J.af (br ab D.size)]++[.fl]))
 rw[jt _ _ x3,x4];exact xK
theorem Aj:∀ {v:LV} {ab:List Int} {l:Addr} {t:Tag} {fl:Bool} (pr:Pr G) (hC:aS o q ay c d w D σ cnt aJ) (hJ:eU j c z σ J) (W:Own o q z) (eJ:P o) (eV:P q) (hw:w+3*ab.length≤7000) (hd:D.cj=false) (gO:(cnt:Int)<ay) (hv:v=.fl (ab.map .int)∨v=.ref l∧σ l=some (t,.list (ab.map .int))∧t.1=z) (zw:∀(i:Nat) (n:Int),ab[i]?=some n→0≤n∧n<D.aQ∧(au n).length=D.size∧(fl=false→∃A,aJ n=some A∧A.b=au n)∧(fl=true→aJ n=none∧aJ (J.af+1+i)=none∧0≤J.af+1+i∧J.af+1+i<D.aQ∧D.bk (J.af+1+i)=au n∧∀k:Nat,k<ab.length→n≠J.af+1+k)) (h:∀D' σ',bH D (cQ au ab++[.fl])=some D'→aF P σ σ'→aS o q ay c d (w+3*ab.length+1) D' σ' cnt aJ→Q .none σ') (hc:bH D (cQ au ab++[.fl])=none→∀σ',aF P σ σ'→gp σ' o q c d (dN D (cQ au ab++[.fl]))→ep.Q 95 σ'),CallT 9 ⟨false,ep.Q⟩ (.ref 201) G σ Q [.ref j,v,.bool fl]:=by
 law_purse 0 =>
 revert G σ Q ep o q z c d j ay D aJ cnt w P J au
 rintro G σ Q ep o q z c d j ay D aJ cnt w P J au v ab:(_)
 rintro l t fl:(_)
 w_up
 have lq:∀x,(x=o∨x=q)→P x:=fun x y=>y.elim (fun e=>e▸eJ) fun e=>e▸eV
 have fH:¬(z=o∨z=q):=fun y=>y.elim W.zo W.zq
 obtain⟨hl,he,dx,l',nd,es,dp,e1,e2,e3,e4⟩:=id hJ
 have hlen:(cI (ab.map LV.int)).length=ab.length:=by rw[gK,bB]
 have FP:(cQ au ab).length=ab.length:=by unfold cQ;simp
 wtm_at "fnK ep|self numbers from_log"
 rintro cx aa:(_)
 intro F1 F2 F3
 lk
 refine gW F2 (by intro _;with_unfolding_all rfl) ?_
 lk
 have Ef:v=.fl (ab.map .int)∨v=.ref l∧σ l=some (t,.list (ab.map .int))∧¬(t.1=o∨t.1=q):=hv.imp id fun bR=>by obtain⟨a,b,e⟩:=bR;exact⟨a,b,by rw[e];exact fH⟩
 refine KO (fun x=>x=o∨x=q) Ef ?_
 rintro src:(_)
 intro ze
 refine gV (fun i aC ae=>aC "self"=some (.ref j)∧aC "from_log"=some (.bool fl)∧∃Di,bH D ((cQ au ab).take i)=some Di∧(fl=true→∀k:Nat,k<ab.length→Di.bk (J.af+1+k)=D.bk (J.af+1+k))∧aF (fun x=>x=o∨x=q) σ ae∧aS o q ay c d (w+3*i) Di ae cnt aJ) ⟨rfl,rfl,D,rfl,fun _ _ _=>rfl,.refl _ σ,hC⟩ ⟨?_,?_⟩
 ·rintro its i v' aC ae:(_);rintro iG eI ⟨k1,k2,Di,r1,lk,o1,C1⟩:_;obtain⟨y,hy,rfl⟩:=nM iG;obtain⟨n,hn,rfl⟩:=dj hy;have hi:i<ab.length:=(List.getElem?_eq_some_iff.mp hn).1;obtain⟨n0,n1,NC,hf,ht⟩:=zw i n hn;have S:=eK _ r1;have xG:=o1.at e1 fH;obtain⟨kW,r,bn,m1,m2,m3,c1⟩:=C1.cell;obtain⟨x1,x2⟩:=uC (vY (au:=au) hn) r1;lk;refine gE (Q:=fun v σ'=>v=.int (if fl then J.af+1+i else n)∧σ'=ae) (lj ?_) ?_
  ·lk
   ·rename_i y;exact⟨by rw[y];rfl,rfl⟩
   rename_i y;exact⟨by rw[y];rfl,rfl⟩
  rintro _ _ ⟨rfl,rfl⟩:_
  have qJ:cont aJ Di (if fl then J.af+1+(i:Int)else n)=au n∧0≤(if fl then J.af+1+(i:Int)else n)∧(if fl then J.af+1+(i:Int)else n)<Di.aQ:=by
   rw[S.aQ];cases fl with
   |false=>obtain⟨A,a1,a2⟩:=hf rfl;exact⟨by unfold cont;simp only[qf,if_false];rw[a1];exact a2,n0,n1⟩
   |true=>obtain⟨a1,a2,a3,a4,a5,a6⟩:=ht rfl;exact⟨by unfold cont;simp only[if_true];rw[a2];exact(lk rfl i hi).trans a5,a3,a4⟩
  have Ui:gj aJ n ((aJ n).map fun A=>{A with b:=au n})=aJ:=by
   cases fl with
   |false=>obtain⟨A,a1,a2⟩:=hf rfl;rw[a1,Option.map_some,← a2];show gj aJ n (some A)=aJ;rw[← a1];exact nN ..
   |true=>obtain⟨a1,-⟩:=ht rfl;rw[a1,Option.map_none,← a1];exact nN ..
  lk;refine aT (vX (P:=fun x=>x=o∨x=q) pr C1 (.inr rfl) %[hw|hi] (S.cj.trans hd) qJ.2.1 qJ.2.2 (fun _=>gO) fun dP o3 C3=>?_) rfl;rw[qJ.1];have Uh:=o3.at xG fH;obtain⟨kW,r,bn,m1,m2,m3,c1⟩:=C3.cell;lk;refine fu (DE (P:=fun x=>x=o∨x=q) pr C3 (.inr rfl) (.inl rfl) %[hw|hi] (S.cj.trans hd) n0 (by rw[S.aQ];exact n1) (fun _=>gO) (by rw[S.size];exact NC) (fun hr dG o4 C4=>?_) fun hr dG o4 xK=>?_) rfl
  ·rw[Ui]at C4;lk;refine⟨ze _ ((o1.trans o3).trans o4),by k_ne,by k_ne,_,x1.trans (tD hr),fun f k hk=>?_,(o1.trans o3).trans o4,?_⟩
   ·rw[aE.pV,aY,lk f k hk];obtain⟨-,-,-,-,-,a6⟩:=ht f;exact fun y=>a6 k hk y.symm
   rw[show w+3*(i+1)=w+3*i+3 by room];exact C4
  obtain⟨x3,x4⟩:=x2 (pX hr).1;refine hc (by rw[cN,x3];rfl) dG (((o1.trans o3).trans o4).mono lq) ?_;rw[jt _ _ x3,x4,(pX hr).2];exact xK
 rintro aC ae - ⟨k1,k2,Di,r1,lk,o1,C1⟩:_
 rw[hlen,← FP,ib]at r1
 rw[hlen]at C1
 have xG:=o1.at e1 fH
 obtain⟨kW,r,bn,m1,m2,m3,c1⟩:=C1.cell
 have S:=eK _ r1
 lk
 refine uD (P:=P) pr (jy rfl) C1 eJ %[|hw] (S.cj.trans hd) r1 (fun D' σ' r2 o2 C2=>?_) fun r2 σ' o2 jc=>hc r2 σ' ((o1.mono lq).trans o2) jc
 lk
 exact h D' σ' r2 ((o1.mono lq).trans o2) C2
end
open JL
noncomputable def c9(n:Int):List Op→bc→bc
 |[],v=>v
 |.wr k b::r,v=>c9 n r (if n=k then b else v)
 |.fl::r,v=>c9 n r v
theorem dU(n:Int)(a b:List Op):∀v,c9 n (a++b) v=c9 n b (c9 n a v):=by
 induction a with
 |nil=>intro v;rfl
 |cons x r ih=>intro v;cases x<;>exact ih _
theorem iK(n:Int)(ops:List Op):∀ {D D'},bH D ops=some D'→D'.bk n=c9 n ops (D.bk n):=by
 induction ops with
 |nil=>intro D D' h;cases h;rfl
 |cons x r ih =>
  intro D D' h;cases x with
  |wr k b =>
   first|rw[ej]at h|rw[ek]at h
   split at h
   ·cases h
   rw[ih h,aE.pV];rfl
  |fl =>
   first|rw[ej]at h|rw[ek]at h
   split at h
   ·cases h
   rw[ih h];rfl
theorem jd:∀ {ops:List Op},(∀k b,Op.wr k b∈ops→n≠k)→∀v,c9 n ops v=v
 |[],_,_=>rfl
 |.wr k b::r,h,v=>by
  show c9 n r (if n=k then b else v)=v;rw[aY (h k b (gQ ..))];exact jd (fun k b z=>h k b (gb _ z)) v
 |.fl::r,h,v=>jd (ops:=r) (fun k b z=>h k b (gb _ z)) v
theorem oM{au:Int→bc}{n:Int}:∀ {ab:List Int},n∈ab→∀v,c9 n (cQ au ab) v=au n:=by
 revert au n
 rintro au n:(_)
 have keep:∀(ab:List Int),c9 n (cQ au ab) (au n)=au n:=fun ab=>by
  induction ab with
  |nil=>rfl
  |cons k r ih =>
   show c9 n (cQ au r) (if n=k then au k else au n)=_;by_cases z:n=k
   ·rw[bh z,← z];exact ih
   rw[aY z];exact ih
 intro ab
 induction ab with
 |nil=>intro h;cases h
 |cons k r ih =>
  intro h v;show c9 n (cQ au r) (if n=k then au k else v)=_;by_cases z:n=k
  ·rw[bh z,← z];exact keep r
  exact ih ((eb h).resolve_left z) _
noncomputable def cB(af size:Int)(au:Int→bc)(ab:List Int):List Op:=
 (hU af au ab++[.fl])++([.wr af (br ab size),.fl]++((cQ au ab++[.fl])++[.wr af (br [] size),.fl]))
theorem sH{a b c:List Op}{D D1:aE}(h:bH D a=some D1)(k:bH D1 b=none):bH D (a++(b++c))=none∧dN D (a++(b++c))=dN D1 b:=by
 rw[cN,h,kX _ _ h,jt _ _ k]
 exact⟨by show bH D1 (b++c)=none;rw[cN,k];rfl,rfl⟩
section
variable {G:Gd}{σ:St}{Q:LV→St→Prop}{ep:EP}{o q z:Nat}{c d j:Addr}{ay:Int}{D:aE}{aJ:Act}{cnt w:Nat}{P:Nat→Prop}{J:AJ}{au:Int→bc}
structure yE(J:AJ)(D:aE)(aJ:Act)(au:Int→bc):Prop where
 nd:J.ab.Nodup
 ne:∀n∈J.ab,0≤n∧n<D.aQ∧n<256∧((au n).length:Int)=D.size∧(∃a,aJ n=some ⟨a,au n,0,1⟩)∧¬(J.af≤n∧n<J.af+J.size)
 out:∀n,n∉J.ab→aJ n=none
 len:(J.ab.length:Int)+1≤J.size
 fit:4*((J.ab.length:Int)+1)≤D.size
 s0:0≤J.af
 s1:J.af+J.size≤D.aQ
 short:J.ab.length<200
theorem KP(pr:Pr G)(hC:aS o q ay c d w D σ J.ab.length aJ)(hJ:eU j c z σ J)(W:Own o q z)(jO:P 0)(eJ:P o)(eV:P q)(jP:P z)(hw:w+6*J.ab.length+20≤7000)(hd:D.cj=false)(gO:(J.ab.length:Int)<ay)(K:yE J D aJ au)
 (h:∀D' σ' w',w'≤w+6*J.ab.length+20→bH D (cB J.af D.size au J.ab)=some D'→aF P σ σ'→aS o q ay c d w' D' σ' 0 (fun _=>none)→eU j c z σ' {J with ab:=[],dQ:=J.dQ+1}→Q .none σ')
 (hc:bH D (cB J.af D.size au J.ab)=none→∀σ',aF P σ σ'→gp σ' o q c d (dN D (cB J.af D.size au J.ab))→ep.Q 95 σ'):CallT 10 ⟨false,ep.Q⟩ (.ref 180) G σ Q [.ref j]:=by
 law_purse 0 =>
 revert pr hC hJ W jO eJ eV jP hw hd gO K h hc
 revert G σ Q ep o q z c d j ay D aJ w P J au
 rintro G σ Q ep o q z c d j ay D aJ w P J:(_)
 rintro au:(_)
 intro pr hC hJ W jO eJ eV jP hw hd gO K h hc
 have lq:∀x,(x=o∨x=q∨x=0)→P x:=fun x y=>y.elim (fun e=>e▸eJ) fun y=>y.elim (fun e=>e▸eV) fun e=>e▸jO
 have fH:¬(z=o∨z=q∨z=0):=fun y=>y.elim W.zo fun y=>y.elim W.zq fun e=>by have:=W.z2;exists e,this
 obtain⟨hl,he,dx,l,nd,es,dp,e1,e2,e3,e4⟩:=id hJ
 revert hl he dx l nd es dp e1 e2 e3 e4
 intro hl he
 rintro dx l nd es dp:(_)
 intro e1 e2 e3 e4
 have ok:=hC.2.2.1
 have hs0:=ok.s0
 have k1:=K.len
 have k2:=K.s0
 have k3:=K.s1
 have k4:=K.short
 have Uj:∀i:Nat,i<J.ab.length→aJ (J.af+1+i)=none∧0≤J.af+1+i∧J.af+1+i<D.aQ:=fun i hi =>
  ⟨K.out _ fun y=>(K.ne _ y).2.2.2.2.2 ⟨by room,by exists k1,hi⟩,%[|k2],by exists k1,k3,hi⟩
 have Jg:aJ J.af=none∧0≤J.af∧J.af<D.aQ:=⟨K.out _ fun y=>(K.ne _ y).2.2.2.2.2 ⟨by room,by exists k1⟩,%[|k2],by exists k1,k3⟩
 wtm_at "fnK ep|self"
 rintro cx aa:(_)
 intro F1 F2 F3
 lk
 refine fu (Qb (P:=fun x=>x=o∨x=q∨x=0) (au:=au) pr hC hJ ⟨W.zo,W.zq⟩ (.inl rfl) (.inr (.inl rfl)) %[|hw] hd gO (fun n hn=>let⟨_,_,_,_,⟨a,ha⟩,_⟩:=K.ne n hn;⟨_,ha,rfl⟩) Uj (fun D1 jb r1 o1 C1=>?_) fun r1 jb o1 rj=>?_) rfl
 rotate_left
 ·refine hc (by unfold cB;rw[cN,r1];rfl) jb (o1.mono lq) ?_;unfold cB;rw[jt _ _ r1];exact rj
 have J1:=hJ.only o1 fH
 have S1:=eK _ r1
 have f1:=o1.at e1 fH
 have f2:=o1.at e2 fH
 lk
 refine fu (DI (P:=fun x=>x=o∨x=q∨x=0) (ab:=J.ab) pr C1 J1 W (.inr (.inr rfl)) (.inl rfl) (.inr (.inl rfl)) %[|hw] (S1.cj.trans hd) gO (.inr ⟨rfl,f2,by show ¬z=0;have:=W.z2;exists this⟩) (fun n hn=>⟨(K.ne n hn).1,(K.ne n hn).2.2.1⟩) k4 (by rw[S1.size];exact K.fit) (by rw[S1.aQ];exact Jg) (fun D2 hN r2 o2 C2=>?_) fun r2 hN o2 jc=>?_) rfl
 rotate_left
 ·rw[S1.size]at r2 jc;obtain⟨x1,x2⟩:=sH (c:=(cQ au J.ab++[.fl])++[.wr J.af (br [] D.size),.fl]) r1 r2;exact hc x1 hN ((o1.trans o2).mono lq) (by unfold cB;rw[x2];exact jc)
 rw[S1.size]at r2
 have J2:=J1.only o2 fH
 have S2:=eK _ r2
 have g1:=o2.at f1 fH
 have g2:=o2.at f2 fH
 have Ri:bH D ((hU J.af au J.ab++[.fl])++[.wr J.af (br J.ab D.size),.fl])=some D2:=by rw[cN,r1];exact r2
 lk
 refine fu (Aj (P:=fun x=>x=o∨x=q∨x=0) (au:=au) (ab:=J.ab) pr C2 J2 W (.inl rfl) (.inr (.inl rfl)) %[|hw] (S2.cj.trans (S1.cj.trans hd)) gO (.inr ⟨rfl,g2,rfl⟩) (fun i n hn=>?_) (fun D3 dP r3 o3 C3=>?_) fun r3 dP o3 Jb=>?_) rfl
 ·obtain⟨a1,a2,a3,a4,⟨a,a5⟩,a6⟩:=K.ne n (eF hn);exact⟨a1,by rw[S2.aQ,S1.aQ];exact a2,by rw[S2.size,S1.size];exact a4,fun _=>⟨_,a5,rfl⟩,fun y=>by cases y⟩
 rotate_left
 ·obtain⟨x1,x2⟩:=sH (c:=[.wr J.af (br [] D.size),.fl]) Ri r3;rw[gq]at x1 x2;exact hc x1 dP (((o1.trans o2).trans o3).mono lq) (by unfold cB;rw[x2];exact Jb)
 have J3:=J2.only o3 fH
 have S3:=eK _ r3
 have m1:=o3.at g1 fH
 have m2:=o3.at g2 fH
 have ND:bH D (((hU J.af au J.ab++[.fl])++[.wr J.af (br J.ab D.size),.fl])++(cQ au J.ab++[.fl]))=some D3:=by rw[cN,Ri];exact r3
 have hsz:D3.size=D.size:=S3.size.trans (S2.size.trans S1.size)
 lk
 refine bu ?_
 lk
 refine fu (DI (P:=fun x=>x=o∨x=q∨x=0) (ab:=[]) (l:=0) (t:=(0,0,0)) pr C3 J3 W (.inr (.inr rfl)) (.inl rfl) (.inr (.inl rfl)) %[|hw] (S3.cj.trans (S2.cj.trans (S1.cj.trans hd))) gO (.inl rfl) (fun n hn=>by cases hn) %[|0] (by rw[hsz];have:=K.fit;simp;exists this) (by rw[S3.aQ,S2.aQ,S1.aQ];exact Jg) (fun D4 dG r4 o4 C4=>?_) fun r4 dG o4 xK=>?_) rfl
 rotate_left
 ·rw[hsz]at r4 xK;obtain⟨x1,x2⟩:=sH (c:=[]) ND r4;rw[ng,gq,gq]at x1 x2;exact hc x1 dG ((((o1.trans o2).trans o3).trans o4).mono lq) (by unfold cB;rw[x2];exact xK)
 rw[hsz]at r4
 have Uk:bH D (cB J.af D.size au J.ab)=some D4:=by
  have:bH D ((((hU J.af au J.ab++[.fl])++[.wr J.af (br J.ab D.size),.fl])++(cQ au J.ab++[.fl]))++[.wr J.af (br [] D.size),.fl])=some D4:=by rw[cN,ND];exact r4
  rw[gq,gq]at this;exact this
 have J4:=J3.only o4 fH
 have vP:∀n∈J.ab,D4.bk n=au n:=fun n hn=>by
  obtain⟨-,-,-,-,-,a6⟩:=K.ne n hn
  rewrite [iK n _ r4,jd (fun k b y=>?_),iK n _ r3,dU,oM hn]
  ·rfl
  rcases eb y with y|y
  ·cases y;exact fun e=>a6 ⟨%[|e],by exists k1,e⟩
  simp at y
 lk
 have p1:=o4.at m1 fH
 have p2:=o4.at m2 fH
 refine gW F2 (by intro _;with_unfolding_all rfl) (yy rfl ?_)
 lk
 refine Dj p2 (gV (fun i aC ae=>aC "self"=some (.ref j)∧aF (fun x=>x=o∨x=q∨x=0) dG ae∧∃w',w'≤w+6*J.ab.length+20∧aS o q ay c d w' D4 ae (J.ab.length-i) (fun k=>if k∈J.ab.take i then none else aJ k)) ⟨rfl,.refl _ _,w+3*J.ab.length+1+4+3*J.ab.length+1+4,?_,?_⟩ ⟨?_,?_⟩)
 ·room
 ·simp only[take_zero,List.not_mem_nil,if_false,Nat.sub_zero];exact C4
 ·rintro its i v aC ae hv eI ⟨q1,o5,w',vZ,C5⟩:_;obtain⟨n,hn,rfl⟩:=dj hv;have hi:i<J.ab.length:=(List.getElem?_eq_some_iff.mp hn).1;obtain⟨-,-,-,-,⟨a,ha⟩,-⟩:=K.ne n (eF hn)
  have FQ:n∉J.ab.take i:=fun y=>by
   have h1:=K.nd;rw[← m7 i J.ab,lA]at h1;have hd:n∈J.ab.drop i:=by rw[mY hi,(List.getElem?_eq_some_iff.mp hn).2];exact gQ ..
   exact h1.2.2 n y n hd rfl
  have tV:=o5.at p1 fH;obtain⟨kW,r,bn,m1,m2,m3,c1⟩:=C5.cell;refine cL ?_;lk;refine aT (Nt (P:=fun x=>x=o∨x=q∨x=0) (A:=⟨a,au n,0,1⟩) pr C5 (.inr (.inl rfl)) (by rw[aY FQ];exact ha) (by show(0:Int)<1;decide) (fun _ _=>(vP n (eF hn)).symm) fun i2 qK Jh o6 C6=>?_) rfl;have hu:sy ⟨a,au n,0,1⟩=none:=bh ⟨rfl,rfl⟩;rw[hu]at Jh C6;have Jh:qK+1=J.ab.length-i+0:=Jh
  have e:gj (fun k=>if k∈J.ab.take i then none else aJ k) n none=fun k=>if k∈J.ab.take (i+1)then none else aJ k:=funext fun k=>by
   unfold gj;rw[c8 hn];by_cases y:k=n
   ·subst y;simp
   simp[y]
  rw[e,show qK=J.ab.length-(i+1)by(have w0:=Ln.fS (J.ab.length) (i);have w1:=Ln.fS (J.ab.length) (i+1);revert Jh w0 w1;room)]at C6;lk;exact⟨⟨_,(o5.trans o6).at p2 fH⟩,by k_ne,o5.trans o6,w',vZ,C6⟩
 rintro aC ae - ⟨q1,o5,w',vZ,C5⟩:_
 rw[bB,ib,Nat.sub_self]at C5
 have e:(fun k=>if k∈J.ab then none else aJ k)=fun _=>none:=funext fun k=>by
  by_cases y:k∈J.ab
  ·simp[y]
  simp[y,K.out k y]
 rw[e]at C5
 have tV:=o5.at p1 fH
 have Ww:=o5.at p2 fH
 have n1:=neT tV Ww rfl
 lk
 refine iu (z,1,0) fun l' Rj=>?_
 have n2:=neN tV Rj
 lk
 refine iS ⟨(z,2,0),fun Ji dp' HQ=>?_⟩
 have n3:=neN (aI ..) HQ
 have Rk:=HQ
 rw[av _ _ n3.symm]at Rk
 have n4:=neN (aI ..) Rk
 lk
 have oz:aF (fun x=>x=z) ae (upd (upd (upd (upd (upd ae l' ((z,1,0),.list [])) j ((z,0,0),.inst 218 dx (jF J c l' nd))) Ji ((z,2,0),.dict [] dp')) j ((z,0,0),.inst 218 dx (jF J c l' Ji))) j ((z,0,0),.inst 218 dx (jF {J with dQ:=J.dQ+1} c l' Ji))):=by refine((((aF.refl (fun x=>x=z) ae).new Rj ?_).upd ((av _ _ n2).trans tV) ?_ ?_).new HQ ?_).upd ((av _ _ n3).trans (aI ..)) ?_ ?_ |>.upd (aI ..) ?_ ?_<;>rfl
 have hf:=h D4 _ w' vZ Uk ((((((o1.trans o2).trans o3).trans o4).trans o5).mono lq).trans (oz.mono fun _ y=>y▸jP)) (C5.only oz W.zo.symm W.zq.symm) ⟨lB _,he,dx,l',Ji,[],dp',aI ..,by da_tab,by da_tab,rfl⟩
 exact hf
end
open JL
section
variable {X:Fx}{σ:St}{Q:LV→St→Prop}{ep:EP}
theorem BM:if vs.length=([]:List LV).length then my k G σ vs [] vs.isEmpty else vs.isEmpty=false:=by
 cases vs with
 |nil=>exact(rfl:([]:List LV).isEmpty=true)
 |cons a r=>rw[aY (by simp)];rfl
theorem fX{ep:EP}{X:Fx}{σ:St}{a:LV}(ha:g7 σ a vs){Q:LV→St→Prop}(h:Q (.bool (!vs.isEmpty)) σ):O2 σ (.fl []) ep X Q (compareOp .NotEq) a:=lL ha (.inl (.inl rfl)) BM h
theorem lQ{ep:EP}{X:Fx}{σ:St}{a:LV}(ha:g7 σ a vs){Q:LV→St→Prop}(h:Q (.bool vs.isEmpty) σ):O2 σ (.fl []) ep X Q (compareOp .Eq) a:=qu ha (.inl (.inl rfl)) BM h
end
theorem xM(ops:List Op):∀ {D:aE},D.last=none→D.bl=none→∃D',bH D ops=some D':=by
 induction ops with
 |nil=>intro D _ _;exact⟨D,rfl⟩
 |cons x r ih =>
  intro D h1 h2;cases x with
  |wr n b=>rw[ej];rw[h1];exact ih (D:=D.wr n b) h1 h2
  |fl=>rw[ek];rw[h2];exact ih (D:=D.fl) h1 h2
section
variable {G:Gd}{σ:St}{Q:LV→St→Prop}{ep:EP}{o q z:Nat}{c d j:Addr}{ay:Int}{D:aE}{aJ:Act}{cnt w:Nat}{P:Nat→Prop}{J:AJ}{au:Int→bc}
theorem Qc(pr:Pr G)(hJ:eU j c z σ J)(hP:P z)(h1:1<J.aK)(h:∀σ',aF P σ σ'→eU j c z σ' {J with aK:=J.aK-1}→Q .none σ'):CallT 1 b0 (.ref 173) G σ Q [.ref j]:=by
 obtain⟨hl,he,dx,l,nd,es,dp,e1,e2,e3,e4⟩:=hJ
 have n1:=neT e1 e2 rfl
 have n2:=neT e1 e3 rfl
 wtm_at "fnK b0|self"
 intro cx aa F1 F2 F3
 lk
 exact h _ ((aF.refl P σ).upd e1 hP hP) ⟨hl,he,dx,l,nd,es,dp,aI ..,by da_tab,by da_tab,e4⟩
theorem Qd(pr:Pr G)(hC:aS o q ay c d w D σ J.ab.length aJ)(hJ:eU j c z σ J)(W:Own o q z)(jO:P 0)(eJ:P o)(eV:P q)(jP:P z)(h1:J.aK=1)(bF:J.ab≠[])(hw:w+6*J.ab.length+20≤7000)(hd:D.cj=false)(gO:(J.ab.length:Int)<ay)(K:yE J D aJ au)
 (h:∀D' σ' w',w'≤w+6*J.ab.length+20→bH D (cB J.af D.size au J.ab)=some D'→aF P σ σ'→aS o q ay c d w' D' σ' 0 (fun _=>none)→eU j c z σ' {J with ab:=[],dQ:=J.dQ+1,aK:=0}→Q .none σ')
 (hc:bH D (cB J.af D.size au J.ab)=none→∀σ',aF P σ σ'→gp σ' o q c d (dN D (cB J.af D.size au J.ab))→ep.Q 95 σ'):CallT 11 ⟨false,ep.Q⟩ (.ref 173) G σ Q [.ref j]:=by
 law_purse 0 =>
 obtain⟨hl,he,dx,l,nd,es,dp,e1,e2,e3,e4⟩:=id hJ
 have n1:=neT e1 e2 rfl
 have n2:=neT e1 e3 rfl
 have NF:(J.ab.map LV.int).isEmpty=false:=by cases q:J.ab with|nil=>exact absurd q bF|cons a r=>rfl
 have xN:=W.z2
 wtm_at "fnK ep|self"
 intro cx aa F1 F2 F3
 lk
 refine bu ?_
 refine fX (.inl (.inr ⟨_,_,rfl,(av _ _ n1.symm).trans e2⟩)) ?_
 rw[NF]
 lk
 have oz:aF (fun x=>x=z) σ (upd σ j ((z,0,0),.inst 218 dx (jF {J with aK:=J.aK-1} c l nd))):=by refine(aF.refl _ σ).upd e1 ?_ ?_<;>rfl
 have J2:eU j c z (upd σ j ((z,0,0),.inst 218 dx (jF {J with aK:=J.aK-1} c l nd))) {J with aK:=J.aK-1}:=⟨hl,he,dx,l,nd,es,dp,aI ..,by da_tab,by da_tab,e4⟩
 refine fu (KP (P:=P) (au:=au) (J:={J with aK:=J.aK-1}) pr (hC.only oz W.zo.symm W.zq.symm) J2 W jO eJ eV jP hw hd gO ⟨K.nd,K.ne,K.out,K.len,K.fit,K.s0,K.s1,K.short⟩ (fun D' σ' w' vZ r1 o1 C1 J1=>?_) fun r1 σ' o1 rj=>?_) rfl
 ·lk;refine h D' σ' w' vZ r1 ((oz.mono fun _ y=>y▸jP).trans o1) C1 ?_;have e:J.aK-1=0:=by exists h1
  rw[show({J with ab:=[],dQ:=J.dQ+1,aK:=0}:AJ)={J with ab:=[],dQ:=J.dQ+1,aK:=J.aK-1}by rw[e]];exact J1
 exact hc r1 σ' ((oz.mono fun _ y=>y▸jP).trans o1) rj
structure v8(J:AJ)(D:aE)(ab:List Int):Prop where
 nd:ab.Nodup
 ne:∀n∈ab,0≤n∧n<D.aQ∧n<256∧¬(J.af≤n∧n<J.af+J.size)
 len:(ab.length:Int)≤J.bb
 fit:4*((ab.length:Int)+1)≤D.size
 s4:D.size%4=0
 sz:D.size≤400
 s0:0≤J.af
 s1:J.af<D.aQ
 hd:D.bk J.af=br ab D.size
theorem HR:∀ {ab:List Int} (pr:Pr G) (hC:aS o q ay c d w D σ 0 (fun _=>none)) (hJ:eU j c z σ J) (W:Own o q z) (jO:P 0) (eV:P q) (hw:w≤7000) (hd:D.cj=false) (hm:0<ay) (K:v8 J D ab) (h:∀σ',aF P σ σ'→aS o q ay c d w D σ' 0 (fun _=>none)→Q (.fl (ab.map .int)) σ'),CallT 6 b0 (.ref 208) G σ Q [.ref j]:=by
 law_purse 0 =>
 revert G σ Q o q z c d j ay D w P J
 rintro G σ Q o q z c d j ay D w:(_)
 rintro P J ab:(_)
 w_up
 have lq:∀x,(x=q∨x=0)→P x:=fun x y=>y.elim (fun e=>e▸eV) fun e=>e▸jO
 have fH:¬(z=q∨z=0):=fun y=>y.elim W.zq fun e=>by have:=W.z2;exists e,this
 have pW:o≠q:=hC.1
 have Ni:¬(o=q∨o=0):=fun y=>y.elim pW fun e=>by have:=W.o2;exists e,this
 obtain⟨hl,he,dx,l,nd,es,dp,e1,e2,e3,e4⟩:=id hJ
 revert hl he dx l nd es dp e1 e2 e3 e4
 intro hl he
 rintro dx l nd es dp:(_)
 intro e1 e2 e3 e4
 obtain⟨kW,r,bn,m1,m2,m3,c1⟩:=hC.cell
 revert kW r bn m1 m2 m3 c1
 rintro kW r bn m1 m2:(_)
 rintro m3:(_)
 intro c1
 have k1:=K.s0
 have k2:=K.s1
 have pe:=K.fit
 have hsz:=K.sz
 wtm_at "fnK b0|self"
 rintro cx aa:(_)
 intro F1 F2 F3
 lk
 refine aT (vX (P:=fun x=>x=q∨x=0) pr hC (.inl rfl) %[|hw] hd k1 k2 (fun _=>hm) ?_) rfl
 rintro jb:(_)
 intro o1 C1
 have qJ:cont (fun _=>none) D J.af=br ab D.size:=K.hd
 rw[qJ]
 have f1:=o1.at e1 fH
 lk
 refine aT (Qa (P:=fun x=>x=0) pr rfl (fun n hn=>⟨(K.ne n hn).1,(K.ne n hn).2.2.1⟩) K.fit K.s4 K.sz K.len ?_) rfl
 rintro hN:(_)
 intro o2
 have Ak:¬z=0:=by have:=W.z2;exists this
 have C2:=C1.only o2 (by have:=W.o2;exists this) (by have:=W.q2;exists this)
 have J2:=(hJ.only o1 fH).only o2 Ak
 have g1:=o2.at f1 Ak
 obtain⟨kW,r,bn,m1,m2,m3,c1⟩:=C2.cell
 revert kW r bn m1 m2 m3 c1
 rintro kW r bn m1 m2:(_)
 rintro m3:(_)
 intro c1
 obtain⟨mi,dk,dl,du,oH,oI,d1,d2,d3,d4⟩:=id C2.2.2.2.1
 revert mi dk dl du oH oI d1 d2 d3 d4
 rintro mi dk dl du oH:(_)
 rintro oI:(_)
 intro d1 d2 d3 d4
 have hlen:(cI (ab.map LV.int)).length=ab.length:=by rw[gK,bB]
 lk
 refine gW F2 (by intro _;with_unfolding_all rfl) ?_
 lk
 refine IF (gV (fun i aC ae=>aC "self"=some (.ref j)∧aC "numbers"=some (.fl (ab.map .int))∧hN=ae) ⟨rfl,rfl,rfl⟩ ⟨?_,?_⟩)
 ·rintro its i v aC ae:(_);rintro hv eI ⟨k1,k2,rfl⟩:_;refine Lake.ex1 (nM hv) ?_;rintro y:(_);rintro⟨hy,rfl⟩:_;refine Lake.ex1 (dj hy) ?_;rintro n:(_);rintro⟨hn,rfl⟩:_;have hi:i<ab.length:=(List.getElem?_eq_some_iff.mp hn).1;obtain⟨a1,a2,a3,a4⟩:=K.ne n (eF hn);lk;refine aT (Nz pr J2 ?_) rfl;have pW:(decide (J.af≤n)&&decide (n<J.af+J.size))=false:=by simpa using fun y=>Int.not_lt.mp fun x=>a4 ⟨y,x⟩
  rw[pW];lk;have Ae:(ab.map LV.int).length=ab.length:=bB ..;refine kL (x:=none) (y:=some (i:Int)) (.inl (.inl rfl)) rfl rfl %[pe,hsz|Ae] (bu ?_)
  have e:f7 (ab.map LV.int) none (some (i:Int))=(ab.take i).map LV.int:=by
   unfold f7;have e2:clipAt (ab.map LV.int).length (i:Int)=i:=by unfold clipAt;rw[aY (by room),Ae];(have w0:=Ln.fT (max 0 (min ↑i ↑ab.length));have w1:=Ln.fM (0) (min ↑i ↑ab.length);have w2:=Ln.fm (↑i) (↑ab.length);revert hi w0 w1 w2;room)
   simp only[Option.elim,e2,drop_zero,Nat.sub_zero,List.map_take]
  rw[e];lk;refine zJ (ns:=ab.take i) (.inl (.inl rfl)) ?_
  have FQ:(ab.take i).contains n=false:=by
   rw[Bool.eq_false_iff];intro y;have y:=contains_iff_mem.mp y;have h1:=K.nd;rw[← m7 i ab,lA]at h1;have hd:n∈ab.drop i:=by rw[mY hi,(List.getElem?_eq_some_iff.mp hn).2];exact gQ ..
   exact h1.2.2 n y n hd rfl
  rw[FQ];lk;exact⟨trivial,by k_ne,by k_ne,rfl⟩
 rintro aC ae - ⟨k1,k2,rfl⟩:_
 lk
 exact h _ ((o1.mono lq).trans (o2.mono fun _ y=>y▸jO)) C2
theorem Am:∀ {ab:List Int} (pr:Pr G) (hC:aS o q ay c d w D σ 0 (fun _=>none)) (hJ:eU j c z σ J) (W:Own o q z) (jO:P 0) (eJ:P o) (eV:P q) (h1:J.aK=0) (h2:J.ab=[]) (hw:w+3*ab.length+20≤7000) (hd:D.cj=false) (cU:D.last=none) (Ae:D.bl=none) (hm:0<ay) (K:v8 J D ab) (hs:(ab.length:Int)+1≤J.size) (FK:J.af+J.size≤D.aQ) (hv:∀(i:Nat) (n:Int),ab[i]?=some n→D.bk (J.af+1+i)=au n) (h0:ab.length<200) (h:∀D' σ' w',w'≤w+3*ab.length+20→(if ab=[]then D'=D else bH D ((cQ au ab++[.fl])++[.wr J.af (br [] D.size),.fl])=some D')→aF P σ σ'→aS o q ay c d w' D' σ' 0 (fun _=>none)→Q (.fl (ab.map .int)) σ'),CallT 10 b0 (.ref 215) G σ Q [.ref j]:=by
 law_purse 0 =>
 revert G σ Q o q z c d j ay D w P J au
 rintro G σ Q o q z c d j ay D w P J au ab:(_)
 w_up
 have lq:∀x,(x=o∨x=q∨x=0)→P x:=fun x y=>y.elim (fun e=>e▸eJ) fun y=>y.elim (fun e=>e▸eV) fun e=>e▸jO
 have fH:¬(z=o∨z=q∨z=0):=fun y=>y.elim W.zo fun y=>y.elim W.zq fun e=>by have:=W.z2;exists e,this
 obtain⟨hl,he,dx,l,nd,es,dp,e1,e2,e3,e4⟩:=id hJ
 have NF:(J.ab.map LV.int).isEmpty=true:=by rw[h2];rfl
 have k0:=K.s0
 have k1:=K.s1
 wtm_at "fnK b0|self"
 rintro cx aa:(_)
 intro F1 F2 F3
 lk
 refine bu ?_
 refine fX (.inl (.inr ⟨_,_,rfl,e2⟩)) ?_
 rw[NF]
 lk
 refine aT (HR (P:=fun x=>x=o∨x=q∨x=0) pr hC hJ W (.inr (.inr rfl)) (.inr (.inl rfl)) %[|hw] hd hm K fun jb o1 C1=>?_) rfl
 have J1:=hJ.only o1 fH
 have f1:=o1.at e1 fH
 lk
 refine bu ?_
 refine fX (.inl (.inl rfl)) ?_
 lk
 ·rename_i y;have bF:ab≠[]:=fun e=>by nomatch e,y
  obtain⟨D2,r2⟩:=xM (cQ au ab++[.fl]) cU Ae;have S2:=eK _ r2;have Wx:=C1.2.2.1;refine fu (Aj (P:=fun x=>x=o∨x=q∨x=0) (au:=au) (ab:=ab) (l:=0) (t:=(0,0,0)) pr C1 J1 W (.inl rfl) (.inr (.inl rfl)) %[|hw] hd hm (.inl rfl) (fun i n hn=>?_) (fun D3 dP r3 o3 C3=>?_) fun r3 dP o3 Jb=>by nomatch r2,r3) rfl
  ·obtain⟨a1,a2,a3,a4⟩:=K.ne n (eF hn);have hi:i<ab.length:=(List.getElem?_eq_some_iff.mp hn).1;have NC:((au n).length:Int)=D.size:=by rw[← hv i n hn];exact Wx.bk _
   exact⟨a1,a2,NC,fun y=>(by cases y),fun _=>⟨rfl,rfl,%[|k0],%[hs,FK|hi],hv i n hn,fun k hk e=>a4 ⟨%[|e],by exists hs,hk,e⟩⟩⟩
  have J3:=J1.only o3 fH;have g1:=o3.at f1 fH;rw[r2]at r3;cases r3;lk;refine bu ?_;lk;obtain⟨D4,r4⟩:=xM [.wr J.af (br [] D2.size),.fl] (S2.last.trans cU) (S2.bl.trans Ae);have S4:=eK _ r4;refine fu (DI (P:=fun x=>x=o∨x=q∨x=0) (ab:=[]) (l:=0) (t:=(0,0,0)) pr C3 J3 W (.inr (.inr rfl)) (.inl rfl) (.inr (.inl rfl)) %[|hw] (S2.cj.trans hd) hm (.inl rfl) (fun n hn=>by cases hn) %[|0] (by rw[S2.size];have:=K.fit;simp;exists this) ⟨rfl,k0,by rw[S2.aQ];exact k1⟩ (fun D5 iZ r5 o5 C5=>?_) fun r5 iZ o5 hD5=>by nomatch r4,r5) rfl;rw[r4]at r5;cases r5;lk;refine h D4 _ _ ?_ ?_ (((o1.trans o3).trans o5).mono lq) C5
  ·room
  rw[aY bF,cN,r2,← S2.size];exact r4
 rename_i y
 have bF:ab=[]:=by
  cases q:ab with
  |nil=>rfl
  |cons a r=>nomatch q,y
 exact h D _ w (by room) (by rw[bh bF]) (o1.mono lq) C1
end
open JL
noncomputable def AJ.new(af size bb ay cK:Int):AJ:=⟨af,size,bb,ay,cK,[],0,0⟩
section
variable {G:Gd}{σ:St}{Q:LV→St→Prop}{ep:EP}{o q z:Nat}{c d j:Addr}{ay:Int}{D:aE}{aJ:Act}{cnt w:Nat}{P:Nat→Prop}{J:AJ}{au:Int→bc}
theorem Qe:∀ {x dx:Addr} {af size bb mo cK:Int} (pr:Pr G) (hC:aS o q ay c d w D σ cnt aJ) (W:Own o q z) (hP:P z) (e1:σ x=some ((z,0,0),.inst 218 dx [])) (h0:0≤af) (h1:2≤size) (h2:af+size≤D.aQ) (hp:bb=min (size-1) (D.size.fdiv 4-1)) (FT:mo=min bb (ay-4)) (h3:1≤mo) (h4:1≤cK) (h5:cK≤mo) (h:∀σ',aF P σ σ'→eU x c z σ' (AJ.new af size bb mo cK)→Q .none σ'),CallT 1 b0 (.ref 131) G σ Q [.ref x,.ref c,.int af,.int size,.int cK]:=by
 law_purse 0 =>
 revert G σ Q o q z c d ay D aJ cnt w P
 rintro G σ Q o q z c d ay D aJ cnt w P x dx af size bb mo:(_)
 rintro cK:(_)
 w_up
 subst FT
 subst hp
 obtain⟨kW,r,bn,m1,m2,m3,c1⟩:=hC.cell
 obtain⟨mi,dk,dl,du,oH,oI,d1,d2,d3,d4⟩:=id hC.2.2.2.1
 have hm:=hC.2.1
 have n1:=iF c1 e1 W.zq.symm
 have n2:=iF d1 e1 W.zo.symm
 refine CallT.Q3 (names:=["self","cache","start","size","each"]) (ep:=b0) (by rw[pr.K];rfl) rfl (by rw[pr.K];rfl) rfl (by rw[pr.K];k_in) (fun vs hl=>by obtain⟨x0,q0,rfl,l0⟩:=ls hl;obtain⟨x1,q1,rfl,l1⟩:=ls l0;obtain⟨x2,q2,rfl,l2⟩:=ls l1;obtain⟨x3,q3,rfl,l3⟩:=ls l2;obtain⟨x4,q4,rfl,l4⟩:=ls l3;cases mX l4;exact⟨_,rfl,rfl⟩) rfl %[|0] %[|0] %[|0] ?_
 rintro cx aa:(_)
 intro F1 F2 F3
 lk
 refine lj ?_
 lk
 refine iu (z,1,0) ?_
 rintro l:(_)
 intro hl
 have k1:=neN (aI ..) hl
 lk
 refine iS ⟨(z,2,0),fun nd dp fB=>?_⟩
 have k2:=neN (aI ..) fB
 have NG:=fB
 rw[av _ _ k2.symm]at NG
 have k3:=neN (aI ..) NG
 lk
 refine h _ ?_ ⟨lB _,⟨by show 0≤cK;(exists h4),by show cK≤1000;(have w0:=Ln.fm (min (size-1) (D.size.fdiv 4-1)) (ay-4);revert h5 hm w0;room)⟩,dx,l,nd,[],dp,aI ..,by da_tab,by da_tab,rfl⟩
 repeat' first
  |exact aF.refl P σ
  |exact hP
  |refine aF.new ?_ (by assumption) ?_
  |refine aF.upd ?_ (by da_tab) ?_ ?_
theorem Qg{size bb mo cK:Int}(pr:Pr G)(hC:aS o q ay c d w D σ cnt aJ)(W:Own o q z)(hP:P z)
 (h0:0≤af)(h1:2≤size)(h2:af+size≤D.aQ)(hp:bb=min (size-1) (D.size.fdiv 4-1))(FT:mo=min bb (ay-4))(h3:1≤mo)(h4:1≤cK)(h5:cK≤mo)
 (h:∀x σ',σ x=none→aF P σ σ'→eU x c z σ' (AJ.new af size bb mo cK)→Q (.ref x) σ'):CallT 2 b0 (.ref 218) G σ Q [.ref c,.int af,.int size,.int cK]:=by
 refine CallT.make (t:=(z,0,0)) (t':=(z,3,0)) (fI:=131) (by rw[pr.K];k_in) (by rw[pr.K];k_in) (by rw[pr.K];k_in) fun x dx hx pU ne=>?_
 have tN:upd σ dx ((z,3,0),.dK x) x=none:=by rw[av _ _ ne];exact hx
 have oz:aF (fun y=>y=z) σ (upd (upd σ dx ((z,3,0),.dK x)) x ((z,0,0),.inst 218 dx [])):=by refine((aF.refl _ σ).new pU ?_).new tN ?_<;>rfl
 exact Qe (P:=P) pr (hC.only oz W.zo.symm W.zq.symm) W hP (aI ..) h0 h1 h2 hp FT h3 h4 h5 fun σ' h1 h2=>⟨rfl,h x σ' hx ((oz.mono fun _ y=>y▸hP).trans h1) h2⟩
end
open JL
inductive cb(σ:St)(a:Addr)(n:Int):Prop where
 |mk (g s k:Int) (e:σ a=some ((1,0,0),.list [.int g,.int s,.int k])) (r:0≤s∧s<2147483629∧0≤k∧k≤n)
theorem cb.only{P:Nat→Prop}(h:cb σ a n)(k:aF P σ σ')(hn:¬P 1):cb σ' a n:=by
 obtain⟨g,s,m,e,r⟩:=h
 exact⟨g,s,m,k.at e hn,r⟩
theorem cb.mono{a:Addr}{n' n:Int}{σ:St}(h:cb σ a n)(k:n≤n'):cb σ a n':=by
 obtain⟨g,s,m,e,h1,h2,h3,h4⟩:=h
 exact⟨g,s,m,e,h1,h2,h3,by exists k,h4⟩
section
variable {G:Gd}{σ:St}{Q:LV→St→Prop}{ep:EP}{P:Nat→Prop}
theorem eW{P:Nat→Prop}{G:Gd}{σ:St}(pr:Pr G)(e:cb σ a n)(hP:P 1){Q:LV→St→Prop}{m:Int}(hm:0<m)(Iy:m≤100000)(hn:n≤1000000000)(h:∀d σ',0≤d→d<m→aF P σ σ'→cb σ' a (n+1)→Q (.int d) σ'):CallT 1 b0 (.ref 556) G σ Q [.ref a,.int m]:=by
 law_purse 0 =>
 obtain⟨g,s,k,e,s0,s1,k0,k1⟩:=e
 wtm_at "fnK b0|box many"
 intro cx aa F1 F2 F3
 lk
 ·exact h _ _ (Int.fmod_nonneg_of_pos _ hm) (Int.fmod_lt_of_pos _ hm) ((aF.refl P σ).upd e hP hP) ⟨g.fdiv m,s,k,aI ..,s0,s1,k0,by exists k1⟩
 exact h _ _ (Int.fmod_nonneg_of_pos _ hm) (Int.fmod_lt_of_pos _ hm) ((aF.refl P σ).upd e hP hP) ⟨g,s,k+1,aI ..,s0,s1,%[|k0],by exists k1⟩
theorem Ul:∀ {ns:List Int} {v:LV} (pr:Pr G) (hl:g7 σ v (ns.map .int)) (hP:P 1) (hz:ns.length≤1000) (h:∀a σ',aF P σ σ'→cb σ' a 0→Q (.ref a) σ'),CallT 1 b0 (.ref 549) G σ Q [v]:=by
 law_purse 0 =>
 revert G σ Q P
 rintro G σ Q P ns:(_)
 rintro v:(_)
 w_up
 have lp:(ns.map LV.int).length=ns.length:=bB ..
 wtm_at "fnS b0|script"
 rintro cx aa:(_)
 intro F1 F2 F3 F4
 lk
 refine gW F2 (by intro _;with_unfolding_all rfl) (tR rfl ?_)
 lk
 refine kL (x:=none) (y:=some 24) hl rfl rfl %[hz|lp] (bu ?_)
 have e:∃ms:List Int,f7 (ns.map LV.int) none (some 24)=ms.map LV.int:=⟨f7 ns none (some 24),by unfold f7;simp only[Option.elim,List.map_take,List.map_drop,lp]⟩
 obtain⟨ms,e⟩:=e
 rw[e]
 lk
 refine px (gV (fun i aC ae=>∃g s,aC "great"=some (.int g)∧aC "seed"=some (.int s)∧0≤s∧s<2147483629∧σ=ae) ⟨0,37,rfl,rfl,by decide,by decide,rfl⟩ ⟨?_,?_⟩)
 ·rintro its i v aC ae hv - ⟨g,s,k1,k2,s0,s1,rfl⟩:_;obtain⟨x,hx,rfl⟩:=dj hv;refine cL ?_;have m0:=Int.fmod_nonneg_of_pos (s*48271+x*69621+53) (show(0:Int)<2147483629 by decide);have m1:=Int.fmod_lt_of_pos (s*48271+x*69621+53) (show(0:Int)<2147483629 by decide);lk
  ·exact⟨trivial,_,_,rfl,rfl,m0,m1,rfl⟩
  ·exact⟨trivial,g,_,by k_ne,rfl,m0,m1,rfl⟩
  exact⟨trivial,g,_,by k_ne,rfl,m0,m1,rfl⟩
 rintro aC ae - ⟨g,s,k1,k2,s0,s1,rfl⟩:_
 lk
 refine iu (1,0,0) fun a ha=>?_
 lk
 exact h a _ ((aF.refl P _).new ha hP) ⟨g,s,0,aI ..,s0,s1,fh _,fh _⟩
end
open JL
structure Wd where
 bb:Int
 af:Int
 log:Int
 size:Int
 aQ:Int
 cK:Int
 r0:Int
 r1:Int
 deriving Nonempty
noncomputable def Wd.data(W:Wd):List Int:=((List.range W.aQ.toNat).map fun(i:Nat)=>(i:Int)).filter fun n=>!(decide (W.af≤n)&&decide (n<W.af+W.log))
noncomputable abbrev Wd.DJ(W:Wd):List (Str×LV):=[("places",.int W.bb),("start",.int W.af),("log",.int W.log),("size",.int W.size),("blocks",.int W.aQ),("data",.fl (W.data.map .int)),("each",.int W.cK),("rooms",.fl [.int W.r0,.int W.r1])]
structure Wd.Ok(W:Wd):Prop where
 p0:2≤W.bb
 p1:W.bb≤4
 s0:0≤W.af
 s1:W.af≤2
 l:W.log=W.bb+1∧(W.size=4*W.bb+4∨W.size=4*W.bb+8)∨W.log=W.bb+2∧W.size=4*W.bb+4
 b:W.aQ=W.log+W.bb+3
 e0:1≤W.cK
 e1:W.cK≤W.bb
 NH:W.bb+4≤W.r0
 Rl:W.r0≤W.bb+6
 NI:W.bb+4≤W.r1
 Rm:W.r1≤W.bb+6
theorem Wd.Ok.s4:∀ {W:Wd} (K:W.Ok),W.size%4=0:=by
 rintro W:(_)
 w_up
 refine Int.emod_eq_zero_of_dvd ?_
 rcases K.l with hK|hK
 ·rcases hK.2 with z|z
  ·exact⟨W.bb+1,by exists z⟩
  exact⟨W.bb+2,by exists z⟩
 obtain⟨-,z⟩:=hK
 exact⟨W.bb+1,by exists z⟩
noncomputable def je(σ:St)(a:Addr)(W:Wd):Prop:=W.Ok∧σ a=some ((3,0,0),.eC W.DJ)
noncomputable def qL:List (Option Expr)→List Expr→List ((Str×Pos)×Expr)
 |some (.Constant (.str s) _ p)::ks,v::vs=>((s,p),v)::qL ks vs
 |_,_=>[]
theorem KQ{ai:Pos}(t:Tag)(hk:keys=(qL keys values).map fun e=>some (.Constant (.str e.1.1) 0 e.1.2))(hv:values=(qL keys values).map (·.2))
 (nq:(evalEachOpt keys X.aa).zip ((evalEach values X.aa).map fun v=>do let x ← v;standAt ai;pure x)=(lN X.aa ai (qL keys values)).map fun p=>(some p.1,p.2))(h0:(qL keys values).isEmpty=false)(hlen:(qL keys values).length≤15)(hn:((qL keys values).map (·.1.1)).Nodup)
 (h:∀D,σ D=none→xv X ρ ((qL keys values).map fun e=>(e.1.1,e.2)) (upd σ D (t,.eC [])) (MZ ((qL keys values).map (·.1.1)) t D Q) ep):ET ep X ρ σ (.Dict keys values ai) Q:=
 M0 t hk hv nq (fun z=>by nomatch z,h0) hlen hn h
section
variable {G:Gd}{σ:St}{Q:LV→St→Prop}{ep:EP}{P:Nat→Prop}
theorem NJ:∀ {a:Addr} {wide:Bool} {k:Int} (pr:Pr G) (hP:P 1) (NK:P 3) (e:cb σ a k) (hk:k≤100000) (h:∀x W σ',aF P σ σ'→cb σ' a (k+20)→je σ' x W→Q (.ref x) σ'),CallT 2 b0 (.ref 561) G σ Q [.ref a,.bool wide]:=by
 law_purse 0 =>
 revert G σ Q P
 rintro G σ Q P a wide k:(_)
 w_up
 wtm_at "Zk b0 c|box wide"
 rintro cx aa L:(_)
 intro F1 F2 F3 F4 F5 F6
 lk
 refine gE (Q:=fun v σ'=>v=.int (if wide then 3 else 2)∧σ=σ') (lj ?_) ?_
 ·lk
  ·rename_i y;exact⟨by rw[y];rfl,rfl⟩
  rename_i y;exact⟨by rw[y];rfl,rfl⟩
 rintro _ _ ⟨rfl,rfl⟩:_
 have hw:(2:Int)≤(if wide then 3 else 2)∧(if wide then(3:Int)else 2)≤3:=by split<;>room
 lk
 refine aT (eW (P:=fun y=>y=1) pr e rfl %[|hw] %[|hw] %[|hk] ?_) rfl
 rintro d1 jb:(_)
 intro a1 b1 o1 B1
 have tV:2+d1≤4:=by(have h2:=hw.2;revert b1 h2;room)
 lk
 refine aT (eW (P:=fun y=>y=1) pr B1 rfl (by room) (by room) %[|hk] ?_) rfl
 rintro d2 hN:(_)
 intro a2 b2 o2 B2
 lk
 refine aT (eW (P:=fun y=>y=1) pr B2 rfl (by room) (by room) %[|hk] ?_) rfl
 rintro d3 dP:(_)
 intro a3 b3 o3 B3
 lk
 refine aT (eW (P:=fun y=>y=1) pr B3 rfl %[|b2] %[|a2] %[|hk] ?_) rfl
 rintro d4 dG:(_)
 intro a4 b4 o4 B4
 lk
 refine KQ (3,0,0) rfl rfl (by f_are) rfl (jy rfl) (by decide +kernel) fun x hx=>?_
 lk
 refine ri F1 F4 F5 (by f_are) (by k_in) (by intro _;with_unfolding_all rfl) ?_
 lk
 refine mH (by unfold bL;simp;(have w0:=Ln.fT (2+d1+1+d2+(2+d1)+3);revert tV b2 w0;room)) (fun i aR ae=>ae=upd dG x ((3,0,0),.eC [])∧aR=(((List.range i).map fun(k:Nat)=>(k:Int)).filter fun n=>!(decide (d3≤n)&&decide (n<d3+(2+d1+1+d2)))).map .int) ⟨rfl,rfl⟩ ⟨?_,?_⟩
 ·rintro c' ij G1 G5 i w aR ae hw - ⟨rfl,rfl⟩:_;obtain⟨hi,rfl⟩:=fW hw;have e0:(0:Int)+(i:Int)*1=i:=by room
  rw[e0];refine cL ?_
  have hs:∀b,(decide (d3≤(i:Int))&&decide ((i:Int)<d3+(2+d1+1+d2)))=b→(((List.range (i+1)).map fun(k:Nat)=>(k:Int)).filter fun n=>!(decide (d3≤n)&&decide (n<d3+(2+d1+1+d2)))).map LV.int=(((List.range i).map fun(k:Nat)=>(k:Int)).filter fun n=>!(decide (d3≤n)&&decide (n<d3+(2+d1+1+d2)))).map LV.int++if b then[]else[.int i]:=fun b hb=>by
   rw[List.range_succ,bZ,filter_append,bZ,List.map_singleton,oU,hb];cases b<;>rfl
  lk
  ·rename_i y1 y2;refine⟨trivial,rfl,?_⟩;rw[hs false (by rw[y1];simpa using y2)];rfl
  ·rename_i y1 y2;refine⟨trivial,rfl,?_⟩;rw[hs true (by rw[y1];simpa using y2)];simp
  rename_i y1;refine⟨trivial,rfl,?_⟩;rw[hs false (by rw[y1];rfl)];rfl
 rintro aR ae - ⟨rfl,rfl⟩:_
 refine bu ?_
 lk
 have Wy:cb (upd dG x ((3,0,0),.eC [])) a (k+1+1+1+1):=by
  obtain⟨g,s,m,e,r⟩:=B4;exact⟨g,s,m,(av _ _ (neN e hx)).trans e,r⟩
 refine aT (eW (P:=fun y=>y=1) pr Wy rfl %[|a1] %[|tV] %[|hk] fun d5 iZ a5 b5 o5 B5=>?_) rfl
 lk
 refine ri F1 F4 F5 (by f_are) (by k_in) (by intro _;with_unfolding_all rfl) ?_
 lk
 refine mH (by unfold bL;simp) (fun i aR ae=>∃rs:List Int,rs.length=i∧(∀r∈rs,2+d1+4≤r∧r≤2+d1+6)∧aR=rs.map .int∧aF (fun y=>y=1) iZ ae∧cb ae a (k+1+1+1+1+1+i)) ⟨[],rfl,fun _ y=>(by cases y),rfl,.refl _ _,B5.mono (by room)⟩ ⟨?_,?_⟩
 ·rintro c' ij G1 G5 i w aR ae hw - ⟨rs,rl,rr,rfl,o6,B6⟩:_;obtain⟨hi,rfl⟩:=fW hw;have hi:i<2:=hi;refine cL ?_;lk;refine aT (eW (P:=fun y=>y=1) pr B6 rfl (by room) (by room) %[hk|hi] fun d7 sI a7 b7 o7 B7=>?_) rfl;lk;refine⟨trivial,rs++[2+d1+4+d7],by rw[dv,rl];rfl,fun r hr=>?_,by rw[bZ];rfl,o6.trans o7,B7.mono (by room)⟩;rcases eG hr with hr|hr
  ·exact rr r hr
  have:r=2+d1+4+d7:=dE hr;exists a7,b7,this
 rintro aR ae - ⟨rs,rl,rr,rfl,o6,B6⟩:_
 obtain⟨r0,r1,rfl⟩:∃r0 r1,rs=[r0,r1]:=by obtain⟨r0,q0,rfl,l0⟩:=ls rl;obtain⟨r1,q1,rfl,l1⟩:=ls l0;cases mX l1;exact⟨_,_,rfl⟩
 refine bu ?_
 lk
 have NL:ae x=some ((3,0,0),.eC []):=o6.at (o5.at (aI ..) %[|0]) %[|0]
 have q0:=rr r0 (by simp)
 have q1:=rr r1 (by simp)
 have hm:∀y,y=1→P y:=fun y z=>z▸hP
 refine VN NL ?_
 refine h x ⟨2+d1,d3,2+d1+1+d2,4*(2+d1)+4+4*d4,2+d1+1+d2+(2+d1)+3,1+d5,r0,r1⟩ _ ?_ ?_ ⟨?_,?_⟩
 ·exact((((((o1.trans o2).trans o3).trans o4).mono hm).new hx NK).trans ((o5.trans o6).mono hm)).upd NL NK NK
 ·obtain⟨g,s,m,e,u1,u2,u3,u4⟩:=B6;have e2:(bL 0 1 (2:Int).toNat).length=2:=rfl;refine⟨g,s,m,(av _ _ (iF e NL %[|0])).trans e,u1,u2,u3,by exists u4,e2⟩
 ·refine⟨by show 2≤2+d1;(exists a1),tV,a3,by show d3≤2;(exists b3),?_,by show 2+d1+1+d2+(2+d1)+3=2+d1+1+d2+(2+d1)+3;rfl,by show 1≤1+d5;(exists a5),by show 1+d5≤2+d1;(exists b5),q0.1,q0.2,q1.1,q1.2⟩;show 2+d1+1+d2=2+d1+1∧(4*(2+d1)+4+4*d4=4*(2+d1)+4∨4*(2+d1)+4+4*d4=4*(2+d1)+8)∨2+d1+1+d2=2+d1+2∧4*(2+d1)+4+4*d4=4*(2+d1)+4;rcases(show d2=0∧d4=0∨d2=0∧d4=1∨d2=1∧d4=0 by exists a2,b2,a4,b4)with⟨q1,q2⟩|⟨q1,q2⟩|⟨q1,q2⟩
  ·exact .inl ⟨%[|q1],.inl %[|q2]⟩
  ·exact .inl ⟨%[|q1],.inr %[|q2]⟩
  exact .inr ⟨%[|q1],by exists q2⟩
 rw[aI]
 unfold Wd.DJ Wd.data
 rw[show(bL 0 1 (2+d1+1+d2+(2+d1)+3).toNat).length=(2+d1+1+d2+(2+d1)+3).toNat from iD]
 rfl
end
open JL
noncomputable def Wd.room(W:Wd)(k:Int):Int:=if k=0 then W.r0 else W.r1
noncomputable def Wd.J(W:Wd):AJ:=AJ.new W.af W.log W.bb W.bb W.cK
theorem Wd.Ok.fd:∀ {W:Wd} (h:W.Ok),W.bb=min (W.log-1) (W.size.fdiv 4-1):=by
 rintro W:(_)
 w_up
 have:=h.p0
 have hs:0≤W.size:=by have hl:=h.l;have hp:=h.p0;exists hl,hp
 rw[Int.fdiv_eq_ediv_of_nonneg _ %[|0]]
 have:=h.l;(have w0:=Ln.fm (W.log-1) (W.size/4-1);have w1:=Ln.fd (W.size) (4) %[|0];revert this w0 w1;room)
section
variable {G:Gd}{σ:St}{Q:LV→St→Prop}{ep:EP}{P:Nat→Prop}{o q z:Nat}{d:Addr}{D:aE}{w:Nat}{W:Wd}
theorem BN{wa:Addr}{k:Int}(pr:Pr G)(hW:je σ wa W)(hD:bY σ o d D)(bF:o≠q)(O:Own o q z)(h3:q≠3∧z≠3)(ok:D.Ok w)(eV:P q)(jP:P z)(Wz:P t.1)(ht:t.1≠o∧t.1≠q∧t.1≠z)(hb:D.aQ=W.aQ)(hs:D.size=W.size)(hk:k=0∨k=1)
 (h:∀x c j σ',aF P σ σ'→aS o q (W.room k) c d w D σ' 0 (fun _=>none)→eU j c z σ' W.J→σ' x=some (t,.list [.ref c,.ref j])→Q (.ref x) σ'):CallT 3 b0 (.ref 568) G σ Q [.ref wa,.ref d,.int k]:=by
 law_purse 0 =>
 obtain⟨K,e1⟩:=hW
 have k1:=K.p0
 have k2:=K.p1
 have k3:=K.s0
 have k4:=K.s1
 have k5:=K.l
 have k6:=K.b
 have k7:=K.e0
 have k8:=K.e1
 have hr:W.bb+4≤W.room k∧W.room k≤W.bb+6:=by
  unfold Wd.room;split
  ·exact⟨K.NH,K.Rl⟩
  exact⟨K.NI,K.Rm⟩
 wtm_at "fnK b0|world disk k"
 intro cx aa F1 F2 F3
 lk
 refine dD (v:=.int (W.room k)) (.inl (.inl rfl)) %[|hk] %[|hk] ?_ ?_
 ·unfold Wd.room;rcases hk with rfl|rfl<;>rfl
 lk
 refine aT (PY (P:=fun y=>y=q) pr hD bF ok %[k1|hr] %[k2|hr] rfl fun c jb zW o1 C1=>?_) rfl
 have e2:=o1.at e1 h3.1.symm
 lk
 refine aT (Qg (P:=fun y=>y=z) pr C1 O rfl k3 %[k1|k5] %[hb,k1,k4|k6] (bb:=W.bb) (mo:=W.bb) (by rw[hs];exact K.fd) (by(have w0:=Ln.fm (W.bb) (W.room k-4);revert hr w0;room)) %[|k1] k7 k8 fun j hN WA o2 J2=>?_) rfl
 lk
 refine iu t fun x hx=>?_
 have ot:aF (fun y=>y=t.1) hN (upd hN x (t,.list [.ref c,.ref j])):=by refine(aF.refl _ hN).new hx ?_;rfl
 lk
 exact h x c j _ (((o1.mono fun _ y=>y▸eV).trans (o2.mono fun _ y=>y▸jP)).trans (ot.mono fun _ y=>y▸Wz)) ((C1.only o2 O.zo.symm O.zq.symm).only ot ht.1.symm ht.2.1.symm) (J2.only ot ht.2.2.symm) (aI ..)
theorem Qh:∀ {wa va:Addr} {t:Tag} {m:bW} {dp:Nat} {au:Int→bc} (pr:Pr G) (hW:je σ wa W) (e2:σ va=some (t,.dict (aU m) dp)) (eJ:P o) (h3:o≠3) (ht:t.1≠o) (hv:∀n∈W.data,cq m n=some (au n)∧((au n).length:Int)=W.size) (h:∀d D σ',aF P σ σ'→bH (aE.new W.aQ W.size) (cQ au W.data++[.fl])=some D→D.Ok 200→bY σ' o d D→Q (.ref d) σ'),CallT 6 b0 (.ref 575) G σ Q [.ref wa,.ref va]:=by
 law_purse 0 =>
 revert G σ Q P o W
 rintro G σ Q P o W wa va t m dp au:(_)
 w_up
 obtain⟨K,e1⟩:=hW
 have k1:=K.p0
 have k2:=K.p1
 have k5:=K.l
 have k6:=K.b
 have dX:W.data.length≤20:=by
  unfold Wd.data;refine Nat.le_trans (List.length_filter_le ..) ?_;rw[bB,List.length_range];(have w0:=Ln.fT (W.aQ);revert k2 k5 k6 w0;room)
 have WB:∀n∈W.data,0≤n∧n<W.aQ:=fun n hn=>by
  unfold Wd.data at hn;obtain⟨i,hi,rfl⟩:=gB (mem_filter.mp hn).1;have:=List.mem_range.mp hi;(have w0:=Ln.fT (W.aQ);revert this w0;room)
 wtm_at "fnK b0|world old"
 rintro cx aa:(_)
 intro F1 F2 F3
 lk
 refine aT (I1 (P:=fun y=>y=o) (o:=o) pr %[k1,k5|k6] %[k1|k5] rfl ?_) rfl
 rintro d jb:(_)
 intro Rn o1 D1
 have f1:=o1.at e1 h3.symm
 have f2:=o1.at e2 ht
 lk
 refine gW F2 (by intro _;with_unfolding_all rfl) (tR rfl ?_)
 lk
 refine px (gV (fun i aC ae=>aC "old"=some (.ref va)∧aC "disk"=some (.ref d)∧∃Di,bH (aE.new W.aQ W.size) ((cQ au W.data).take i)=some Di∧Di.Ok (3*i)∧aF (fun y=>y=o) σ ae∧bY ae o d Di) ⟨rfl,rfl,_,rfl,aE.Ok.new %[k1|k5] %[k2|k5],o1,D1⟩ ⟨?_,?_⟩)
 ·rintro its i v aC ae:(_);rintro iG - ⟨q1,q2,Di,r1,tW,o2,D2⟩:_;refine Lake.ex1 (dj iG) ?_;rintro n:(_);rintro⟨hn,rfl⟩:_;have hi:i<W.data.length:=(List.getElem?_eq_some_iff.mp hn).1;obtain⟨x1,x2⟩:=hv n (eF hn);obtain⟨x3,x4⟩:=WB n (eF hn);have S:=eK _ r1;have g2:=o2.at e2 ht;obtain⟨dx,dk,dl,du,oH,oI,d1,d2,d3,d4⟩:=id D2;obtain⟨y1,y2⟩:=uC (vY (au:=au) hn) r1;have lr:cG Di.last Di.writes=false:=by rw[S.last];rfl
  refine cL ?_;lk;refine jq (v:=.bX (au n)) g2 (by rw[eZ,x1];rfl) ?_;lk;refine fu (FC (P:=fun y=>y=o) pr D2 rfl (S.cj.trans rfl) x3 (by rw[S.aQ];exact x4) (by rw[S.size];exact x2) (tW.mono %[dX|hi]) (fun hr dP o3 D3=>?_) fun hr _ _ _=>by nomatch lr,hr) rfl;lk;exact⟨trivial,by k_ne,by k_ne,_,y1.trans (tD hr),(tW.wr (by rw[S.size];exact x2)).mono (by room),o2.trans o3,D3⟩
 rintro aC ae:(_)
 rintro - ⟨q1,q2,Di,r1,tW,o2,D2⟩:_
 have FP:(cQ au W.data).length=W.data.length:=by unfold cQ;simp
 rw[bB,← FP,ib]at r1
 rw[bB]at tW
 have S:=eK _ r1
 have lr:cG Di.bl Di.bj=false:=by rw[S.bl];rfl
 obtain⟨dx,dk,dl,du,oH,oI,d1,d2,d3,d4⟩:=id D2
 lk
 refine fu (FD (P:=fun y=>y=o) pr D2 rfl (S.cj.trans rfl) (tW.mono %[|dX]) (fun hr dP o3 D3=>?_) fun hr _ _ _=>by nomatch lr,hr) rfl
 lk
 exact h d _ _ ((o2.trans o3).mono fun _ y=>y▸eJ) (by rw[cN,r1];exact BK hr) (tW.fl.mono %[|dX]) D3
end
open JL
theorem bind4{fd:FuncData}{y z u:Str}{vs:List Value}(hl:vs.length=4)(h:∀v0 v1 v2 v3,bindArgs fd ⟨[v0,v1,v2,v3],[]⟩=pure [(x,v0),(y,v1),(z,v2),(u,v3)]):bindArgs fd ⟨vs,[]⟩=pure (List.zip [x,y,z,u] vs):=by obtain⟨v0,q0,rfl,l0⟩:=ls hl;obtain⟨v1,q1,rfl,l1⟩:=ls l0;obtain⟨v2,q2,rfl,l2⟩:=ls l1;obtain⟨v3,q3,rfl,l3⟩:=ls l2;cases mX l3;exact(h v0 v1 v2 v3)
theorem bind5{fd:FuncData}{y z u w:Str}{vs:List Value}(hl:vs.length=5)(h:∀v0 v1 v2 v3 v4,bindArgs fd ⟨[v0,v1,v2,v3,v4],[]⟩=pure [(x,v0),(y,v1),(z,v2),(u,v3),(w,v4)]):bindArgs fd ⟨vs,[]⟩=pure (List.zip [x,y,z,u,w] vs):=by obtain⟨v0,q0,rfl,l0⟩:=ls hl;obtain⟨v1,q1,rfl,l1⟩:=ls l0;obtain⟨v2,q2,rfl,l2⟩:=ls l1;obtain⟨v3,q3,rfl,l3⟩:=ls l2;obtain⟨v4,q4,rfl,l4⟩:=ls l3;cases mX l4;exact(h v0 v1 v2 v3 v4)
theorem bind6:∀ {fd:FuncData} {x y z u w r:Str} {vs:List Value} (hl:vs.length=6) (h:∀v0 v1 v2 v3 v4 v5,bindArgs fd ⟨[v0,v1,v2,v3,v4,v5],[]⟩=pure [(x,v0),(y,v1),(z,v2),(u,v3),(w,v4),(r,v5)]),bindArgs fd ⟨vs,[]⟩=pure (List.zip [x,y,z,u,w,r] vs):=by
 rintro fd x y z u w r:(_)
 rintro vs:(_)
 w_up
 obtain⟨v0,q0,rfl,l0⟩:=ls hl;obtain⟨v1,q1,rfl,l1⟩:=ls l0;obtain⟨v2,q2,rfl,l2⟩:=ls l1;obtain⟨v3,q3,rfl,l3⟩:=ls l2;obtain⟨v4,q4,rfl,l4⟩:=ls l3;obtain⟨v5,q5,rfl,l5⟩:=ls l4;cases mX l5;exact(h v0 v1 v2 v3 v4 v5)
theorem bind8:∀ {fd:FuncData} {x y z u w r s t:Str} {vs:List Value} (hl:vs.length=8) (h:∀v0 v1 v2 v3 v4 v5 v6 v7,bindArgs fd ⟨[v0,v1,v2,v3,v4,v5,v6,v7],[]⟩=pure [(x,v0),(y,v1),(z,v2),(u,v3),(w,v4),(r,v5),(s,v6),(t,v7)]),bindArgs fd ⟨vs,[]⟩=pure (List.zip [x,y,z,u,w,r,s,t] vs):=by
 law_purse 0 =>
 rintro fd x y z u w r s t:(_)
 rintro vs:(_)
 w_up
 obtain⟨v0,q0,rfl,l0⟩:=ls hl;obtain⟨v1,q1,rfl,l1⟩:=ls l0;obtain⟨v2,q2,rfl,l2⟩:=ls l1;obtain⟨v3,q3,rfl,l3⟩:=ls l2;obtain⟨v4,q4,rfl,l4⟩:=ls l3;obtain⟨v5,q5,rfl,l5⟩:=ls l4;obtain⟨v6,q6,rfl,l6⟩:=ls l5;obtain⟨v7,q7,rfl,l7⟩:=ls l6;cases mX l7;exact(h v0 v1 v2 v3 v4 v5 v6 v7)
structure mQ(W:Wd)(m:bW):Prop where
 nd:(m.map (·.1)).Nodup
 e:∀x∈m,x.1∈W.data∧(x.2.length:Int)=W.size
noncomputable def NM(b s l:Int):Nat:=(((List.range b.toNat).map fun(i:Nat)=>(i:Int)).filter fun n=>!(decide (s≤n)&&decide (n<s+l))).length
theorem Um:∀p∈([2,3,4]:List Int),∀s∈([0,1,2]:List Int),∀l∈[p+1,p+2],(NM (l+p+3) s l:Int)=p+3:=by decide +kernel
theorem NN{a b c x:Int}(h:x=a∨x=b∨x=c):x∈[a,b,c]:=by simpa using h
theorem j8{W:Wd}(h:W.Ok):(W.data.length:Int)=W.bb+3:=by
 law_purse 0 =>
 have h1:=h.p0
 have h2:=h.p1
 have h3:=h.s0
 have h4:=h.s1
 show(NM W.aQ W.af W.log:Int)=_
 rw[h.b]
 refine Um W.bb (NN %[h1|h2]) W.af (NN %[h3|h4]) W.log ?_
 exact h.l.elim (fun y=>y.1▸gQ ..) fun y=>y.1▸gb _ (gQ ..)
theorem pY(W:Wd):W.data.Nodup:=by
 unfold Wd.data
 refine List.Nodup.sublist List.filter_sublist ?_
 exact List.Pairwise.map _ (fun a b h=>by exists h) List.nodup_range
theorem eX:∀ {W:Wd} {n:Int},n∈W.data↔0≤n∧n<W.aQ∧¬(W.af≤n∧n<W.af+W.log):=by
 rintro W n:(_)
 unfold Wd.data
 rw[mem_filter]
 constructor
 ·rintro⟨h,k⟩:_;obtain⟨i,hi,rfl⟩:=gB h;have:=List.mem_range.mp hi;refine⟨by room,by(have w0:=Ln.fT (W.aQ);revert this w0;room),fun y=>?_⟩;rw[ia y.1,ia y.2]at k;cases k
 rintro⟨h1,h2,h3⟩:_
 refine⟨mem_map.mpr ⟨n.toNat,List.mem_range.mpr (by(have w0:=Ln.fT (n);have w1:=Ln.fT (W.aQ);revert h1 h2 w0 w1;room)),by(have w0:=Ln.fT (n);revert h1 w0;room)⟩,?_⟩
 rw[Bool.not_eq_true',Bool.eq_false_iff]
 intro y
 rw[jA]at y
 exact h3 ⟨lu y.1,lu y.2⟩
theorem HS{m:bW}(h:n∉m.map (·.1))(b:bc):eB m n b=m++[(n,b)]:=by
 unfold eB
 rw[aY]
 intro y
 obtain⟨e,he,q⟩:=any_eq_true.mp y
 exact h (mem_map.mpr ⟨e,he,lu q⟩)
theorem xO(f:α→β)(l:List α)(i:Nat):(l.map f).eraseIdx i=(l.eraseIdx i).map f:=by rw[List.eraseIdx_eq_take_drop_succ,List.eraseIdx_eq_take_drop_succ,bZ,List.map_take,List.map_drop]
theorem FU{l:List α}{x:α}(hx:l[i]?=some x)(nd:l.Nodup):(l.eraseIdx i).Nodup∧x∉l.eraseIdx i∧(l.eraseIdx i).length+1=l.length∧∀y∈l.eraseIdx i,y∈l:=by
 have hi:i<l.length:=(List.getElem?_eq_some_iff.mp hx).1
 have e:l=l.take i++x::l.drop (i+1):=by
  have:l.drop i=x::l.drop (i+1):=by rw[mY hi,(List.getElem?_eq_some_iff.mp hx).2]
  rw[← this,m7]
 have e2:l.eraseIdx i=l.take i++l.drop (i+1):=List.eraseIdx_eq_take_drop_succ ..
 have sub:=List.eraseIdx_sublist l i
 refine⟨nd.sublist sub,?_,?_,fun y hy=>sub.mem hy⟩
 ·rw[e,lA,nodup_cons]at nd;rw[e2,mem_append];rintro(y|y)
  ·exact nd.2.2 x y x (gQ ..) rfl
  exact nd.2.1.1 y
 rw[List.length_eraseIdx,bh hi];(have w0:=Ln.fS (l.length) (1);revert hi w0;room)
section
variable {G:Gd}{σ:St}{Q:LV→St→Prop}{ep:EP}{P:Nat→Prop}{W:Wd}
theorem NO:∀ {a wa:Addr} {k many turn:Int} {t:Tag} (pr:Pr G) (hW:je σ wa W) (e:cb σ a k) (hP:P 1) (ht:t.1≠1∧t.1≠0∧t.1≠3) (hk:k≤100000) (hm:0≤many∧many≤W.bb) (WC:0≤turn∧turn≤1) (h:∀f m dp σ',aF P σ σ'→cb σ' a (k+20)→mQ W m→(m.length:Int)=many→σ' f=some (t,.dict (aU m) dp)→Q (.ref f) σ'),CallT 2 b0 (.ref 580) G σ Q [.ref a,.ref wa,.int many,.int turn]:=by
 law_purse 0 =>
 revert G σ Q P W
 rintro G σ Q P W a wa k many:(_)
 rintro turn t:(_)
 w_up
 obtain⟨K,e1⟩:=hW
 have k1:=K.p0
 have k2:=K.p1
 have k5:=K.l
 have k6:=K.b
 have dX:=j8 K
 have WD:=hm.1
 have WE:many≤4:=by(have q:=hm.2;revert q k2;room)
 have Ak:0≤W.size-1:=by exists k1,k5
 have hz1:W.size-1≤100:=by exists k2,k5
 wtm_at "Zk b0 c|box world many turn"
 rintro cx aa L:(_)
 intro F1 F2 F3 F4 F5 F6
 refine mP (oB ["rest","final"] F4 F1 (by k_in) (by f_are) ?_)
 lk
 refine mz (vs:=W.data.map .int) (.inl (.inl rfl)) (by rw[bB];exists k2,dX) (iu (0,0,0) ?_)
 rintro r:(_)
 intro hr
 lk
 refine iS ⟨t,?_⟩
 rintro f dp:(_)
 intro hf
 have Ro:=neN (aI ..) hf
 have Jj:=hf
 rw[av _ _ Ro.symm]at Jj
 lk
 refine xC rfl ?_
 refine mq (x:="final") (v:=.ref f) ?_
 lk
 refine gW F2 (by intro _;with_unfolding_all rfl) ?_
 lk
 have An:(bL 0 1 many.toNat).length=many.toNat:=iD
 refine gV (fun i aC ae=>aC "box"=some (.ref a)∧aC "world"=some (.ref wa)∧aC "turn"=some (.int turn)∧aC "rest"=some (.ref r)∧aC "final"=some (.ref f)∧∃(R:List Int) (m:bW) (dp:Nat),R.Nodup∧R.length+i=W.data.length∧(∀n∈R,n∈W.data∧n∉m.map (·.1))∧mQ W m∧m.length=i∧
  ae r=some ((0,0,0),.list (R.map .int))∧ae f=some (t,.dict (aU m) dp)∧ae wa=some ((3,0,0),.eC W.DJ)∧cb ae a (k+2*i)∧aF P σ ae) ?_ ⟨?_,?_⟩
 ·refine⟨rfl,rfl,rfl,rfl,rfl,W.data,[],dp,pY W,rfl,fun n hn=>⟨hn,by simp⟩,⟨nodup_nil,fun x hx=>by cases hx⟩,rfl,(av _ _ Ro).trans (aI ..),aI ..,?_,?_,((aF.refl P σ).ja hr).ja hf⟩
  ·rw[av _ _ (neN e1 Jj),av _ _ (neN e1 hr)];exact e1
  obtain⟨g,s,x,b,u⟩:=e;exact⟨g,s,x,by rw[av _ _ (neN b Jj),av _ _ (neN b hr)];exact b,by simpa using u⟩
 ·rintro its i v aC ae:(_);rintro hv - ⟨q1,q2,q3,q4,q5,R,m,dp,x1,x2,x3,x4,x5,x6,x7,x8,x9,o1⟩:_;obtain⟨hi,rfl⟩:=fW hv;refine cL ?_;have Ao:(R.map LV.int).length=R.length:=bB ..;lk
  ·exists k2,dX,x2,Ao
  refine aT (eW (P:=fun y=>y=1) pr x9 rfl (by(have w0:=Ln.fT (many);revert hm dX x2 hi Ao w0;room)) %[k2,dX,x2|Ao] %[hk,k2,dX|x2] fun d1 dP a3 b3 o3 B3=>?_) rfl;have y6:=o3.at x6 %[|0];have y7:=o3.at x7 ht.1;have y8:=o3.at x8 %[|0];have hd:d1.toNat<R.length:=by(have w0:=Ln.fT (d1);revert Ao a3 b3 w0;room)
  obtain⟨n,hx⟩:∃x,R[d1.toNat]?=some x:=⟨_,List.getElem?_eq_getElem hd⟩;obtain⟨z1,z2,z3,z4⟩:=FU hx x1;obtain⟨w1,w2⟩:=x3 n (eF hx);lk;refine uw (v:=.int n) y6 %[k2,dX,x2|Ao] a3 (by rw[List.getElem?_map,hx];rfl) ?_;rw[show(R.map LV.int).eraseIdx d1.toNat=(R.eraseIdx d1.toNat).map LV.int from xO _ _ _];have m1:=iF y6 y7 ht.2.1.symm;have m2:=iF y6 y8 %[|0]
  have B4:cb (upd dP r ((0,0,0),.list ((R.eraseIdx d1.toNat).map .int))) a (k+2*i+1):=by
   obtain⟨g,s,x,b,u⟩:=B3;exact⟨g,s,x,(av _ _ (iF b y6 %[|0])).trans b,u⟩
  lk;refine aT (eW (P:=fun y=>y=1) pr B4 rfl (by room) (by room) %[hk,k2,dX|x2] fun d2 iZ a5 b5 o5 B5=>?_) rfl;have u6:=o5.at (aI ..) (show ¬(0:Nat)=1 by decide);have u7:=o5.at ((av _ _ m1.symm).trans y7) ht.1;have u8:=o5.at ((av _ _ m2.symm).trans y8) %[|0];lk;refine ri F1 F4 F5 (by f_are) (by k_in) (by intro _;with_unfolding_all rfl) ?_;lk;have c1:∀j:Nat,0≤(d2+7*(j:Int)).fmod 121∧(d2+7*(j:Int)).fmod 121<121:=fun j=>⟨Int.fmod_nonneg_of_pos _ %[|0],Int.fmod_lt_of_pos _ %[|0]⟩;have Bo:(bL 0 1 (W.size-1).toNat).length=(W.size-1).toNat:=iD;refine mH (by(have w0:=Ln.fT (W.size-1);revert k2 k5 Bo w0;room)) (fun i aR ae=>iZ=ae∧aR=((List.range i).map fun(j:Nat)=>128+(d2+7*(j:Int)).fmod 121).map .int) ⟨rfl,rfl⟩ ⟨?_,?_⟩
  ·rintro c' ij G1 G5 j w aR ae hw - ⟨rfl,rfl⟩:_;obtain⟨hj,rfl⟩:=fW hw;have WA:0+(j:Int)*1≤100:=by(have w0:=Ln.fT (W.size-1);revert k2 k5 hj w0;kt_len)
   refine cL ?_;lk;refine⟨trivial,rfl,?_⟩;rw[List.range_succ,bZ,bZ,show(0:Int)+(j:Int)*1=j by room];rfl
  rintro aR ae - ⟨rfl,rfl⟩:_;rw[Bo];refine bu ?_;lk;refine bu ?_;lk;refine g8 (.inl rfl) (.inl rfl) (by simp;exists k2,k5) (bu ?_);lk;refine lX (ns:=(List.range (W.size-1).toNat).map (fun(j:Nat)=>128+(d2+7*(j:Int)).fmod 121)++[249+turn]) (.inl ?_) ?_ ?_ ?_
  ·rw[bZ];rfl
  ·intro n hn;rcases eG hn with hn|hn
   ·obtain⟨j,-,rfl⟩:=gB hn;have:=c1 j;exists this
   have:n=249+turn:=dE hn;exists WC,this
  ·simp;exists k2,k5
  generalize Un:mA ((List.range (W.size-1).toNat).map (fun(j:Nat)=>128+(d2+7*(j:Int)).fmod 121)++[249+turn])=b;have oJ:(b.length:Int)=W.size:=by rw[← Un];unfold mA;rw[bB,dv,bB,List.length_range];simp;(have w0:=Ln.fS (W.size.toNat) (1);have w1:=Ln.fT (W.size);revert k1 k5 w0 w1;room)
  lk
  ·unfold aU;rw[bB];exists k2,dX,x2,x5
  rename_i dp';rw[kn,HS w2];have n2:=iF u6 u7 ht.2.1.symm;have n3:=iF u8 u7 ht.2.2.symm;refine⟨trivial,by k_ne,by k_ne,by k_ne,by k_ne,by k_ne,R.eraseIdx d1.toNat,m++[(n,b)],dp',z1,%[x2|z3],fun y hy=>⟨(x3 y (z4 y hy)).1,?_⟩,⟨?_,fun x hx=>?_⟩,by rw[dv,x5];rfl,(av _ _ n2).trans u6,aI ..,(av _ _ n3).trans u8,?_,?_⟩
  ·rw[bZ,mem_append];rintro(y1|y1)
   ·exact(x3 y (z4 y hy)).2 y1
   have:y=n:=dE y1;exact z2 (this▸hy)
  ·rw[bZ,lA];refine⟨x4.nd,by simp,fun u hu v hv e=>?_⟩;have:v=n:=dE hv;exact w2 (this▸e▸hu)
  ·rcases eG hx with hx|hx
   ·exact x4.e x hx
   have:x=(n,b):=dE hx;subst this;exact⟨w1,oJ⟩
  ·obtain⟨g,s,y,b',v1,v2,v3,v4⟩:=B5;exact⟨g,s,y,(av _ _ (iF b' u7 ht.1.symm)).trans b',v1,v2,v3,by exists v4⟩
  have kY:∀y,y=1→P y:=fun y z=>z▸hP;exact(((o1.trans (o3.mono kY)).fresh hr).trans (o5.mono kY)).fresh Jj
 rintro aC ae:(_)
 rintro - ⟨q1,q2,q3,q4,q5,R,m,dp,x1,x2,x3,x4,x5,x6,x7,x8,x9,o1⟩:_
 rw[An]at x5 x9
 lk
 exact h f m dp _ o1 (x9.mono %[k2,dX,An|x2]) x4 (by(have w0:=Ln.fT (many);revert hm x5 w0;room)) x7
end
open JL
noncomputable def lR(s:Nat)(r:Int×bc):Prop:=0≤r.1∧r.1+r.2.length≤s
noncomputable abbrev uE(v:bc)(r:Int×bc):bc:=d6 v r.2 r.1.toNat
structure yF(b:bc)(R:bW):Prop where
 fits:∀r∈R,lR b.length r
 ends:∀v:bc,v.length=b.length→R.foldl uE v=b
theorem Ap{v c:bc}{x:Nat}(h:x+c.length≤v.length):(d6 v c x).length=v.length:=by unfold d6;rw[dv,dv,iM,oV];(have w0:=Ln.gm (x) (v.length);have w1:=Ln.fS (v.length) (x+c.length);revert h w0 w1;room)
theorem HT{s:Nat}:∀ {R:bW} {v:bc},(∀r∈R,lR s r)→v.length=s→(R.foldl uE v).length=s:=by
 intro ll
 induction ll with
 |nil =>
  rintro _ _ h;exact h
 |cons r R ih =>
  rintro v h k;obtain⟨h1,h2⟩:=h r (gQ ..);exact ih (fun x hx=>h x (gb _ hx)) ((Ap (by(have w0:=Ln.fT (r.fst);revert k h1 h2 w0;room))).trans k)
theorem HU{b:bc}{R1 R2:bW}(h1:∀r∈R1,lR b.length r)(h2:∀r∈R2,lR b.length r)(k:∀v:bc,v.length=b.length→R2.foldl uE v=b):yF b (R1++R2):=
 ⟨fun r hr=>(eG hr).elim (h1 r) (h2 r),fun v hv=>by rw[List.foldl_append];exact k _ (HT h1 hv)⟩
theorem KR{v b:bc}(h:v.length=b.length):d6 v b 0=b:=by unfold d6;rw[take_zero,nil_append,Nat.zero_add,← h,List.drop_length,ng]
theorem KS{v b:bc}{p:Nat}(h:v.length=b.length)(hp:p≤b.length):d6 (d6 v (b.take p) 0) (b.drop p) p=b:=by
 have e:(b.take p).length=p:=by rw[iM];(have w0:=Ln.gm (p) (b.length);revert hp w0;room)
 unfold d6
 rewrite [take_zero,nil_append,Nat.zero_add,e]
 rewrite [show(List.take p (List.take p b++List.drop p v))=List.take p b by rw[List.take_append_of_le_length %[|e]];exact oR %[|e]]
 rewrite [m7,oV,List.drop_of_length_le (by rewrite [dv,oV];(have w0:=Ln.fS (v.length) (p);have w1:=Ln.fS (b.length) (p);revert h e w0 w1;room)),ng]
 rfl
theorem HV{v b:bc}{p:Nat}(h:v.length=b.length)(hp:p≤b.length):d6 (d6 v (b.drop p) p) (b.take p) 0=b:=by
 have e:(b.take p).length=p:=by rw[iM];(have w0:=Ln.gm (p) (b.length);revert hp w0;room)
 have e2:(v.take p).length=p:=by rw[iM];(have w0:=Ln.gm (p) (v.length);revert h hp w0;room)
 have e3:v.drop (p+(b.drop p).length)=[]:=List.drop_of_length_le (by rw[oV];(have w0:=Ln.fS (b.length) (p);revert h w0;room))
 unfold d6
 rw[e3,ng,take_zero,nil_append,Nat.zero_add,e,List.drop_left' e2,m7]
theorem Aq(x:Int)(n:Nat):ux [.int x] n=(List.replicate n x).map .int:=by
 unfold ux
 induction n with
 |zero=>rfl
 |succ n ih=>rw[m8,m8,List.flatten_cons,ih];rfl
theorem Ar{b:bc}{p:Int}(h0:0≤p):f7 b none (some p)=b.take p.toNat:=by
 unfold f7
 have e:clipAt b.length p=min p.toNat b.length:=by unfold clipAt;rw[aY %[|h0]];exact Ln.clip _ _
 simp only[Option.elim,e,drop_zero,Nat.sub_zero]
 rw[List.take_eq_take_iff];(have w0:=Ln.gm (min p.toNat b.length) (b.length);have w1:=Ln.gm (p.toNat) (b.length);revert w0 w1;room)
theorem uF{b:bc}{p:Int}(h0:0≤p)(h1:p≤b.length):f7 b (some p) none=b.drop p.toNat:=by
 unfold f7
 have e:clipAt b.length p=p.toNat:=by unfold clipAt;rw[aY %[|h0]];(have w0:=Ln.fT (max 0 (min p ↑b.length));have w1:=Ln.fM (0) (min p ↑b.length);have w2:=Ln.fm (p) (↑b.length);have w3:=Ln.fT (p);revert h1 w0 w1 w2 w3;room)
 simp only[Option.elim,e]
 exact oR (by rw[oV];room)
section
variable {G:Gd}{σ:St}{Q:LV→St→Prop}{ep:EP}{P:Nat→Prop}
theorem Qi:∀ {a:Addr} {k many:Int} {b:bc} {t:Tag} (pr:Pr G) (e:cb σ a k) (hP:P 1) (hk:k≤100000) (hb:1≤b.length∧b.length≤1000) (hm:0≤many∧many≤3) (h:∀r R σ',aF P σ σ'→cb σ' a (k+12)→yF b R→1≤R.length→(R.length:Int)≤many+2→σ' r=some (t,.list (R.map c7))→Q (.ref r) σ'),CallT 2 b0 (.ref 587) G σ Q [.ref a,.bX b,.int many]:=by
 law_purse 0 =>
 revert G σ Q P
 rintro G σ Q P a k many b t:(_)
 w_up
 have kY:∀y,y=1→P y:=fun y z=>z▸hP
 have WD:=hm.1
 have WE:=hm.2
 wtm_at "fnS b0|box octets many"
 rintro cx aa:(_)
 intro F1 F2 F3 F4
 refine mP (oB ["rows","size"] F4 F1 (by k_in) (by f_are) ?_)
 lk
 refine iu (0,0,0) ?_
 rintro r:(_)
 intro hr
 lk
 ·exists hb
 refine xC rfl ?_
 refine mq (x:="size") (v:=.int b.length) ?_
 lk
 refine gW F2 (by intro _;with_unfolding_all rfl) ?_
 lk
 have An:(bL 0 1 many.toNat).length=many.toNat:=iD
 refine gV (fun i aC ae=>aC "box"=some (.ref a)∧aC "octets"=some (.bX b)∧aC "rows"=some (.ref r)∧aC "size"=some (.int b.length)∧∃R:bW,R.length=i∧(∀x∈R,lR b.length x)∧ae r=some ((0,0,0),.list (R.map c7))∧cb ae a (k+3*i)∧aF P σ ae) ?_ ⟨?_,?_⟩
 ·refine⟨rfl,rfl,rfl,rfl,[],rfl,fun x hx=>(by cases hx),aI ..,?_,(aF.refl P σ).ja hr⟩;obtain⟨g,s,x,c,u⟩:=e;exact⟨g,s,x,(av _ _ (neN c hr)).trans c,by simpa using u⟩
 ·rintro its i v aC ae:(_);rintro hv - ⟨q1,q2,q3,q4,R,x1,x2,x3,x4,o1⟩:_;obtain⟨hi,rfl⟩:=fW hv;refine cL ?_;lk;refine oB ["place","other"] F4 F1 (by k_in) (by f_are) ?_;lk;refine aT (eW (P:=fun y=>y=1) pr x4 rfl %[|hb] %[|hb] (by(have w0:=Ln.fT (many);revert hk hm hi w0;room)) ?_) rfl;rintro d1 dP:(_);intro a3 b3 o3 B3;lk;refine aT (eW (P:=fun y=>y=1) pr B3 rfl (by room) (by room) (by(have w0:=Ln.fT (many);revert hk hm hi w0;room)) ?_) rfl;rintro d2 dG:(_);intro a4 b4 o4 B4;lk;refine xC rfl ?_;refine mq (x:="other") (v:=.int d2) ?_;have y3:=(o3.trans o4).at x3 %[|0];lk;refine bu ?_;lk;refine aT (eW (P:=fun y=>y=1) pr B4 rfl %[|b3] %[hb|a3] (by(have w0:=Ln.fT (many);revert hk hm hi w0;room)) ?_) rfl;rintro d3 iZ:(_);intro a5 b5 o5 B5;have z3:=o5.at y3 %[|0];lk;refine r7 (vs:=[.int d2]) (.inl rfl) (jy rfl) %[hb,a3|b5] %[|a5] (bu ?_);rw[Aq];lk;refine lX (.inl rfl) (fun n hn=>?_) (by simp;exists hb,a3,b5) ?_
  ·have:=(List.mem_replicate.mp hn).2;exists a4,b4,this
  lk
  ·rw[bB];(have w0:=Ln.fT (many);revert hm x1 hi w0;room)
  have kK:(mA (List.replicate (1+d3).toNat d2)).length=(1+d3).toNat:=by unfold mA;rw[bB,rC]
  refine⟨trivial,by k_ne,by k_ne,by k_ne,by k_ne,R++[(d1,mA (List.replicate (1+d3).toNat d2))],by rw[dv,x1];rfl,fun x hx=>?_,by rw[aI,bZ];rfl,?_,?_⟩
  ·rcases eG hx with hx|hx
   ·exact x2 x hx
   have:x=(d1,mA (List.replicate (1+d3).toNat d2)):=dE hx;subst this;exact⟨a3,by show d1+((mA _).length:Int)≤_;(have w0:=Ln.fT (1+d3);revert a5 b5 kK w0;room)⟩
  ·obtain⟨g,s,y,b',v1,v2,v3,v4⟩:=B5;exact⟨g,s,y,(av _ _ (iF b' z3 %[|0])).trans b',v1,v2,v3,by exists v4⟩
  exact(o1.trans (((o3.trans o4).trans o5).mono kY)).fresh hr
 rintro aC ae:(_)
 rintro - ⟨q1,q2,q3,q4,R,x1,x2,x3,x4,o1⟩:_
 revert q1 q2 q3 q4 R x1 x2 x3 x4 o1
 intro q1 q2 q3 q4
 rintro R:(_)
 intro x1 x2 x3 x4 o1
 rw[An]at x1 x4
 lk
 refine oB ["way","part"] F4 F1 (by k_in) (by f_are) ?_
 lk
 refine aT (eW (P:=fun y=>y=1) pr x4 rfl (by room) (by room) (by(have w0:=Ln.fT (many);revert hk hm w0;room)) ?_) rfl
 rintro d1 dP:(_)
 intro a3 b3 o3 B3
 lk
 refine aT (eW (P:=fun y=>y=1) pr B3 rfl %[|hb] %[|hb] (by(have w0:=Ln.fT (many);revert hk hm w0;room)) ?_) rfl
 rintro d2 dG:(_)
 intro a4 b4 o4 B4
 lk
 refine xC rfl ?_
 refine mq (x:="part") (v:=.int d2) ?_
 have y3:=(o3.trans o4).at x3 %[|0]
 have fin:∀(R2:bW) (x:Addr),1≤R2.length→R2.length≤2→dG x=none→(∀r∈R2,lR b.length r)→(∀v:bc,v.length=b.length→R2.foldl uE v=b)→Q (.ref x) (upd dG x (t,.list ((R++R2).map c7))):=fun R2 x l1 l2 hx f1 f2=>by
  refine h x (R++R2) _ ((o1.trans ((o3.trans o4).mono kY)).ja hx) ?_ (HU x2 f1 f2) (by rw[dv];exists l1) (by rw[dv];(have w0:=Ln.fT (many);revert hm x1 l2 w0;room)) (aI ..);obtain⟨g,s,y,b',v1,v2,v3,v4⟩:=B4;exact⟨g,s,y,(av _ _ (neN b' hx)).trans b',v1,v2,v3,by(have w0:=Ln.fT (many);revert hm v4 w0;room)⟩
 lk
 ·refine bu ?_;lk;refine g8 (vs:=R.map c7) (ws:=[(0,b)].map c7) (.inr ⟨_,_,rfl,y3⟩) (.inl rfl) (by simp;(have w0:=Ln.fT (many);revert hm x1 w0;room)) (iu t fun x hx=>?_);rw[← bZ];lk
  exact fin [(0,b)] x (fg 1) (Nat.le_succ 1) hx (fun x hx=>by
   have:x=(0,b):=dE hx;subst this;exact⟨fh 0,by show 0+(b.length:Int)≤_;room⟩) fun v hv=>KR hv
 ·refine ic (x:=none) (y:=some d2) rfl rfl %[|hb] ?_;rw[Ar a4];lk;refine ic (x:=some d2) (y:=none) rfl rfl %[|hb] ?_;rw[uF a4 %[|b4]];lk;refine bu ?_;lk;refine g8 (vs:=R.map c7) (ws:=[(0,b.take d2.toNat),(d2,b.drop d2.toNat)].map c7) (.inr ⟨_,_,rfl,y3⟩) (.inl rfl) (by simp;(have w0:=Ln.fT (many);revert hm x1 w0;room)) (iu t fun x hx=>?_);rw[← bZ];lk
  exact fin [(0,b.take d2.toNat),(d2,b.drop d2.toNat)] x (by show 1≤2;decide) (fg 2) hx (fun x hx=>by
   rcases eb hx with e0|hx
   ·subst x;exact⟨fh 0,by show 0+((b.take d2.toNat).length:Int)≤_;rw[iM];(have w0:=Ln.gm (d2.toNat) (b.length);revert w0;room)⟩
   have:x=(d2,b.drop d2.toNat):=dE hx;subst this;exact⟨a4,by show d2+((b.drop d2.toNat).length:Int)≤_;rw[oV];(have w0:=Ln.fS (b.length) (d2.toNat);have w1:=Ln.fT (d2);revert b4 w0 w1;room)⟩) fun v hv=>KS hv (by(have w0:=Ln.fT ((d2,List.drop d2.toNat b).fst);revert b4 w0;room))
 refine ic (x:=some d2) (y:=none) rfl rfl %[|hb] ?_
 rw[uF a4 %[|b4]]
 lk
 refine ic (x:=none) (y:=some d2) rfl rfl %[|hb] ?_
 rw[Ar a4]
 lk
 refine bu ?_
 lk
 refine g8 (vs:=R.map c7) (ws:=[(d2,b.drop d2.toNat),(0,b.take d2.toNat)].map c7) (.inr ⟨_,_,rfl,y3⟩) (.inl rfl) (by simp;(have w0:=Ln.fT (many);revert hm x1 w0;room)) (iu t fun x hx=>?_)
 rw[← bZ]
 lk
 exact fin [(d2,b.drop d2.toNat),(0,b.take d2.toNat)] x (by show 1≤2;decide) (fg 2) hx (fun x hx=>by
  rcases eb hx with e0|hx
  ·subst x;exact⟨a4,by show d2+((b.drop d2.toNat).length:Int)≤_;rw[oV];(have w0:=Ln.fS (b.length) (d2.toNat);have w1:=Ln.fT (d2);revert b4 w0 w1;room)⟩
  have:x=(0,b.take d2.toNat):=dE hx;subst this;exact⟨fh 0,by show 0+((b.take d2.toNat).length:Int)≤_;rw[iM];(have w0:=Ln.gm (d2.toNat) (b.length);revert w0;room)⟩) fun v hv=>HV hv (by(have w0:=Ln.fT (d2);revert b4 w0;room))
end
open JL
set_option genCtorIdx true in
inductive cO where
 |pZ (b:Bool)
 |put (n p:Int) (c:bc)
 |bk (n:Int) (c:bc)
 |fin
 deriving Nonempty
noncomputable def dC:cO→LV
 |.pZ b=>.tup [.int 0,.int 0,.int 0,.bool b]
 |.put n p c=>.tup [.int 1,.int n,.int p,.bX c]
 |.bk n c=>.tup [.int 2,.int n,.int 0,.bX c]
 |.fin=>.tup [.int 3,.int 0,.int 0,.bX []]
structure TS where
 now:Int→bc
 aA:List Int
 aK:Int
 deriving Nonempty
noncomputable def cO.Ok(W:Wd)(s:TS):cO→Prop
 |.pZ b=>b=decide ((s.aA.length:Int)+(s.aK+1)*W.cK≤W.bb)
 |.put n p c=>1≤s.aK∧n∈W.data∧0≤p∧p+c.length≤W.size∧(n∉s.aA→(s.aA.length:Int)<W.bb)
 |.bk n c=>n∈W.data∧c=s.now n
 |.fin=>1<s.aK
noncomputable def cO.go(s:TS):cO→TS
 |.pZ b=>{s with aK:=s.aK+if b then 1 else 0}
 |.put n p c=>{s with now:=fun k=>if k=n then d6 (s.now n) c p.toNat else s.now k,aA:=if n∈s.aA then s.aA else s.aA++[n]}
 |.bk _ _=>s
 |.fin=>{s with aK:=s.aK-1}
noncomputable def jH(W:Wd):TS→List cO→TS→Prop
 |s,[],s'=>s=s'
 |s,d::r,s'=>d.Ok W s∧jH W (d.go s) r s'
theorem jH.append{W:Wd}:∀ {a b:List cO} {s s' bQ:TS},jH W s a s'→jH W s' b bQ→jH W s (a++b) bQ:=by
 intro ll
 induction ll with
 |nil =>
  rintro _ _ _ _ h k;exact h▸k
 |cons _ _ ih =>
  rintro _ _ _ _ h k;exact⟨h.1,ih h.2 k⟩
structure mR(W:Wd)(s:TS)(ds:List cO)(s':TS):Prop where
 run:jH W s ds s'
 now:s'.now=s.now
 aA:s'.aA=s.aA
 len:ds.length≤1
 np:∀d∈ds,∀n p c,d≠.put n p c
 c0:0≤s'.aK
 c1:1≤s.aK→1≤s'.aK
 z:s.aK=0→s.aA=[]→1≤s'.aK
 up:s'.aK≤s.aK+1
section
variable {W:Wd}{s:TS}
theorem mR.nil(h0:0≤s.aK)(h1:s.aK≠0):mR W s [] s:=
 {run:=rfl,now:=rfl,aA:=rfl,len:=lB _,np:=fun d hd=>(by cases hd),c0:=h0,c1:=fun y=>y,z:=fun y=>absurd y h1,up:=by room}
theorem mR.pZ(h0:0≤s.aK)(he:W.cK≤W.bb):mR W s [.pZ (decide ((s.aA.length:Int)+(s.aK+1)*W.cK≤W.bb))] (cO.go s (.pZ (decide ((s.aA.length:Int)+(s.aK+1)*W.cK≤W.bb)))):=
 {run:=⟨rfl,rfl⟩
  now:=rfl
  aA:=rfl
  len:=fg 1
  np:=fun d hd n p c z=>by
   have:d=.pZ (decide ((s.aA.length:Int)+(s.aK+1)*W.cK≤W.bb)):=by simpa using hd
   nomatch this,z
  c0:=by show 0≤s.aK+_;split<;>exists h0
  c1:=fun y=>by show 1≤s.aK+_;split<;>exists y
  z:=fun y1 y2=>by
   show 1≤s.aK+_;rw[y1,y2,bh (ia (by show(0:Int)+1*W.cK≤W.bb;exists he))];decide
  up:=by show s.aK+_≤_;split<;>room}
theorem mR.fin(h:1<s.aK):mR W s [.fin] (cO.go s .fin):=
 {run:=⟨h,rfl⟩
  now:=rfl
  aA:=rfl
  len:=fg 1
  np:=fun d hd n p c z=>by
   have:d=.fin:=dE hd;nomatch this,z
  c0:=by show 0≤s.aK-1;exists h
  c1:=fun y=>by show 1≤s.aK-1;exists h
  z:=fun y1 y2=>by exists h,y1
  up:=by show s.aK-1≤s.aK+1;room}
theorem mR.bk(hn:n∈W.data)(h0:0≤s.aK)(h1:s.aK≠0):mR W s [.bk n (s.now n)] s:=
 {run:=⟨⟨hn,rfl⟩,rfl⟩
  now:=rfl
  aA:=rfl
  len:=fg 1
  np:=fun d hd m p c z=>by
   have:d=.bk n (s.now n):=dE hd;nomatch this,z
  c0:=h0
  c1:=fun y=>y
  z:=fun y=>absurd y h1
  up:=by room}
end
noncomputable def pB(many count:Int):Int:=(if decide (many≤count)then 1 else 0)+(if decide (many<count)then 1 else 0)+(if decide (2*many<count)then 1 else 0)
inductive tE(many:Int):List Int→Prop where
 |none:tE many []
 |wr (c:Int) (h0:0≤c) (h1:c<2*many+2):tE many [0,c,c,pB many c]
 |fl (c w:Int) (h:c=0∧w=many∨c=1∧w=many+1∨c=2∧w=2*many+1∨c=3∧w=2*many+2):tE many [1,c,w,c]
section
variable {G:Gd}{σ:St}{Q:LV→St→Prop}{ep:EP}{P:Nat→Prop}{W:Wd}
theorem Qj:∀ {a wa na ta:Addr} {k:Int} {m:bW} {dp:Nat} {t u:Tag} {s:TS} (pr:Pr G) (hW:je σ wa W) (e:cb σ a k) (hP:P 1) (hk:k≤100000) (en:σ na=some (t,.dict (aU m) dp)) (et:σ ta=some (u,.list (s.aA.map .int))) (ht:t.1≠1) (hu:u.1≠1) (hm:∀n∈W.data,cq m n=some (s.now n)) (hn:s.aA.length≤100) (hc:0≤s.aK∧s.aK≤1000) (h:∀ds s' σ',aF P σ σ'→cb σ' a (k+2)→mR W s ds s'→Q (.fl (ds.map dC)) σ'),CallT 2 b0 (.ref 594) G σ Q [.ref a,.ref wa,.ref na,.ref ta,.int s.aK]:=by
 law_purse 0 =>
 revert G σ Q P W
 rintro G σ Q P W a wa na ta k m dp:(_)
 rintro t u s:(_)
 w_up
 obtain⟨K,e1⟩:=hW
 have k1:=K.p0
 have k2:=K.p1
 have k7:=K.e0
 have k8:=K.e1
 have k9:W.cK≤4:=qg k8 K.p1
 have dX:=j8 K
 have kY:∀y,y=1→P y:=fun y z=>z▸hP
 have dY:(s.aA.map LV.int).length=s.aA.length:=bB ..
 wtm_at "fnS b0|box world now noted calls"
 rintro cx aa:(_)
 intro F1 F2 F3 F4
 lk
 refine gE (Q:=fun v σ'=>∃x,v=.int x∧0≤x∧x<4∧(s.aK=0→x=0)∧aF (fun y=>y=1) σ σ'∧cb σ' a (k+1)) (lj ?_) ?_
 ·lk
  ·rename_i y;have y:=lu y;refine aT (eW (P:=fun y=>y=1) pr e rfl (by room) (by room) %[|hk] fun d1 dP a3 b3 o3 B3=>?_) rfl;exact⟨d1,rfl,a3,b3,fun z=>by(exists y,z),o3,B3⟩
  exact⟨0,rfl,fh _,by decide,fun _=>rfl,.refl _ σ,e.mono (by room)⟩
 rintro _ jb ⟨x,rfl,x0,x1,x2,o1,B1⟩:_
 have f1:=o1.at e1 %[|0]
 have fn:=o1.at en ht
 lk
 ·refine MM (o1.at et hu) %[hn|dY] ?_;lk;refine bu ?_;lk;rw[dY];exact h _ _ _ (o1.mono kY) (B1.mono (by room)) (.pZ hc.1 k8)
 ·rename_i y1 y2 y3;have y3:=lu y3;refine bu ?_;lk;exact h [.fin] _ _ (o1.mono kY) (B1.mono (by room)) (.fin y3)
 all_goals have hz:s.aK≠0:=fun y=>by have:=x2 y;simp_all
 all_goals first
  |(rw[bB];exists k2,dX)
  |(refine bu ?_
    lk;exact h [] s _ (o1.mono kY) (B1.mono (by room)) (.nil hc.1 hz))
  |(refine aT (eW (P:=fun y=>y=1) pr B1 rfl (by rw[bB];exists k1,dX) (by rw[bB];exists k2,dX) %[|hk] fun d2 dG a4 b4 o4 B4=>?_) rfl
    rw[bB]at b4;obtain⟨n,hx⟩:∃x,W.data[d2.toNat]?=some x:=⟨_,List.getElem?_eq_getElem (by(have w0:=Ln.fT (d2);revert k1 dX b4 w0;room))⟩;have hn:=eF hx;have WG:=o4.at fn ht;lk;refine dD (v:=.int n) (.inl (.inl rfl)) a4 %[k2,dX|b4] (by rw[List.getElem?_map,hx];rfl) ?_;lk;refine jq (v:=.bX (s.now n)) WG (by rw[eZ,hm n hn];rfl) ?_;lk;refine bu ?_;lk;exact h [.bk n (s.now n)] s _ ((o1.trans o4).mono kY) (B4.mono (by room)) (.bk hn hc.1 hz))
end
open JL
section
variable {G:Gd}{σ:St}{Q:LV→St→Prop}{ep:EP}{P:Nat→Prop}{W:Wd}
theorem Uo:∀ {a:Addr} {k m:Int} (pr:Pr G) (e:cb σ a k) (hP:P 1) (hk:k≤100000) (hm:1≤m∧m≤10) (h:∀c σ',aF P σ σ'→cb σ' a (k+2)→tE m c→Q (.fl (c.map .int)) σ'),CallT 2 b0 (.ref 606) G σ Q [.ref a,.int m]:=by
 law_purse 0 =>
 revert G σ Q P
 rintro G σ Q P a k m:(_)
 w_up
 wtm_at "fnK b0|box many"
 rintro cx aa:(_)
 intro F1 F2 F3
 lk
 refine aT (eW (P:=P) pr e hP (by room) (by room) %[|hk] fun d1 jb a1 b1 o1 B1=>?_) rfl
 lk
 ·refine aT (eW (P:=P) pr B1 hP %[|hm] %[|hm] %[|hk] fun c hN a2 b2 o2 B2=>?_) rfl;lk;refine lj ?_;lk
  ·exact bu (h [] _ (o1.trans o2) (B2.mono (by room)) .none)
  rename_i y;have y:c≠2*m+2:=fun z=>by rw[z]at y;simp at y
  exact bu (h [0,c,c,pB m c] _ (o1.trans o2) (B2.mono (by room)) (.wr c a2 %[b2|y]))
 refine aT (eW (P:=P) pr B1 hP (by room) (by room) %[|hk] fun c hN a2 b2 o2 B2=>?_) rfl
 lk
 refine lj ?_
 lk
 ·exact bu (h [] _ (o1.trans o2) (B2.mono (by room)) .none)
 rename_i y
 have y:c≠4:=fun z=>by rw[z]at y;simp at y
 refine bu ?_
 lk
 have hc:c=0∨c=1∨c=2∨c=3:=by exists a2,b2,y
 refine dD (v:=.int (if c=0 then m else if c=1 then m+1 else if c=2 then 2*m+1 else 2*m+2)) (.inl (.inl rfl)) a2 %[|b2] ?_ ?_
 ·rcases hc with rfl|rfl|rfl|rfl<;>rfl
 lk
 refine bu (h [1,c,_,c] _ (o1.trans o2) (B2.mono (by room)) (.fl c _ ?_))
 rcases hc with rfl|rfl|rfl|rfl<;>simp
end
open JL
theorem mS{ps:List (Int×LV)}(h:(ps.map (·.1)).Nodup):pM ps=ps:=by
 have:∀(ps aR:List (Int×LV)),((aR++ps).map (·.1)).Nodup→ps.foldl (fun aR p=>f9 aR p.1 p.2) aR=aR++ps:=by
  intro ps
  induction ps with
  |nil=>intro aR _;rw[ng];rfl
  |cons p r ih =>
   intro aR h
   have hp:f9 aR p.1 p.2=aR++[p]:=by
    unfold f9;rw[aY];intro y;obtain⟨e,he,q⟩:=any_eq_true.mp y;rw[bZ,lA]at h;exact h.2.2 e.1 (i3 he) p.1 (by simp) (lu q)
   rw[List.foldl_cons,hp,ih _ (by rw[gq];exact h),gq];rfl
 exact this ps [] h
noncomputable def dc(c:Int):cO→Int
 |.pZ b=>c+if b then 1 else 0
 |.fin=>c-1
 |_=>c
theorem jH.aK{W:Wd}:∀ {ds:List cO} {s s':TS},jH W s ds s'→s'.aK=ds.foldl dc s.aK:=by
 intro ll
 induction ll with
 |nil =>
  rintro _ _ h;cases h;rfl
 |cons d r ih =>
  rintro s s' h;rw[ih h.2];show r.foldl dc (d.go s).aK=r.foldl dc (dc s.aK d);cases d<;>rfl
structure Ent where
 n:Int
 R:bW
 ea:Addr
 ra:Addr
 deriving Nonempty
structure jV(σ:St)(x:Ent):Prop where
 e:σ x.ea=some ((5,3,x.n),.list [.int x.n,.ref x.ra])
 r:σ x.ra=some ((5,4,x.n),.list (x.R.map c7))
noncomputable def As(x:Ent):LV:=.ref x.ea
theorem jV.only{x:Ent}{P:Nat→Prop}(h:jV σ x)(k:aF P σ σ')(hn:¬P 5):jV σ' x:=⟨k.at h.e hn,k.at h.r hn⟩
theorem jV.keep:∀ {σ:St} {x:Ent} {a:Addr} {t:Tag} {ob:LO} {c:Tag×LO} (h:jV σ x) (e:σ a=some (t,ob)) (z:(t.2.1==3||t.2.1==4)=false),jV (upd σ a c) x:=by
 rintro σ x a t ob:(_)
 rintro c:(_)
 w_up
 exact⟨(av _ _ fun y=>by have:=h.e;rw[y,e]at this;cases this;simp at z).trans h.e,(av _ _ fun y=>by have:=h.r;rw[y,e]at this;cases this;simp at z).trans h.r⟩
theorem jV.new{x:Ent}{c:Tag×LO}(h:jV σ x)(e:σ a=none):jV (upd σ a c) x:=⟨(av _ _ (neN h.e e)).trans h.e,(av _ _ (neN h.r e)).trans h.r⟩
structure qM(old fin:Int→bc)(keys:List Int)(s:TS)(E:List Ent)(size:Nat):Prop where
 nd:(E.map (·.n)).Nodup
 sub:∀x∈E,x.n∈keys
 ne:∀x∈E,x.R≠[]
 fits:∀x∈E,∀r∈x.R,lR size r
 ends:∀x∈E,x.R.foldl uE (s.now x.n)=fin x.n
 done:∀n∈keys,(∀x∈E,x.n≠n)→s.now n=fin n∧n∈s.aA
 out:∀n,n∉keys→s.now n=old n
 nn:s.aA.Nodup
 ns:∀n∈s.aA,n∈keys
noncomputable def hZ(E:List Ent):Nat:=(E.map fun x=>x.R.length).sum
theorem sM:∀ {a b:List Int},a.Nodup→(∀x∈a,x∈b)→a.length≤b.length:=by
 intro ll
 induction ll with
 |nil =>
  rintro _ _ _;exact lB _
 |cons x r ih =>
  rintro b h k;rw[nodup_cons]at h;have hx:=k x (gQ ..);have:=ih h.2 fun y hy=>(List.mem_erase_of_ne (fun e:y=x=>h.1 (e▸hy))).mpr (k y (gb _ hy));rw[List.length_erase_of_mem hx]at this;have hp:0<b.length:=List.length_pos_of_mem hx;rw[gH];(have w0:=Ln.fS b.length 1;revert this hp w0;room)
theorem qM.room{fin:Int→bc}{keys:List Int}{s:TS}{E:List Ent}{size:Nat}(h:qM old fin keys s E size)(hn:n∈keys)(hk:n∉s.aA):s.aA.length<keys.length:=by
 have:=sM (a:=n::s.aA) (b:=keys) (nodup_cons.mpr ⟨hk,h.nn⟩) fun x hx=>(eb hx).elim (fun e=>e▸hn) (h.ns x)
 exact this
noncomputable def Ent.cut(x:Ent):Ent:={x with R:=x.R.tail}
theorem qa(A B:List Ent)(x:Ent):hZ (A++x::B)=hZ A+x.R.length+hZ B:=by unfold hZ;rw[bZ,ew,List.sum_append,List.sum_cons];room
theorem KU{E:List Ent}(h:∀x∈E,x.R≠[])(k:hZ E≠0):0<E.length:=by
 cases E with
 |nil=>exact absurd rfl k
 |cons x r=>exact Nat.succ_pos _
theorem HW{E:List Ent}(h:∀x∈E,x.R≠[])(k:hZ E=0):E=[]:=by
 cases E with
 |nil=>rfl
 |cons x r =>
  have h1:=h x (gQ ..);have hp:0<x.R.length:=List.length_pos_iff.mpr h1;have ht:hZ (x::r)=x.R.length+hZ r:=by unfold hZ;rw[ew,List.sum_cons]
  (exfalso;revert k hp ht;room)
theorem qM.put{old fin:Int→bc}{keys:List Int}{s:TS}{A B:List Ent}{x:Ent}{size:Nat}{p:Int}{c:bc}{r:bW}(h:qM old fin keys s (A++x::B) size)(hx:x.R=(p,c)::r) :
  (r≠[]→qM old fin keys (cO.go s (.put x.n p c)) (A++x.cut::B) size)∧(r=[]→qM old fin keys (cO.go s (.put x.n p c)) (A++B) size):=by
 law_purse 0 =>
 revert h hx
 revert old fin keys s A B x size p c r
 rintro old fin keys s A B x size p:(_)
 rintro c r:(_)
 intro h hx
 have FV:x∈A++x::B:=by simp
 have hk:=h.sub x FV
 have Au:x.cut.R=r:=by show x.R.tail=r;rw[hx];rfl
 have Av:∀y:Ent,y.n≠x.n→(cO.go s (.put x.n p c)).now y.n=s.now y.n:=fun y hy=>aY hy
 have xP:(cO.go s (.put x.n p c)).now x.n=uE (s.now x.n) (p,c):=bh rfl
 have nd:=h.nd
 rw[bZ,ew,lA,nodup_cons]at nd
 have nA:∀y∈A,y.n≠x.n:=fun y hy e=>nd.2.2 y.n (i3 hy) x.n (gQ ..) e
 have nB:∀y∈B,y.n≠x.n:=fun y hy e=>nd.2.1.1 (e▸i3 (f:=(·.n)) hy)
 have nn:(cO.go s (.put x.n p c)).aA.Nodup:=by
  show(if x.n∈s.aA then s.aA else s.aA++[x.n]).Nodup;split
  ·exact h.nn
  rename_i z;rw[lA];exact⟨h.nn,by simp,fun a ha b hb e=>z ((by simpa using hb:b=x.n)▸e▸ha)⟩
 have ns:∀n∈(cO.go s (.put x.n p c)).aA,n∈keys:=by
  show ∀n∈(if x.n∈s.aA then s.aA else s.aA++[x.n]),n∈keys;split
  ·exact h.ns
  intro n hn;rcases eG hn with hn|hn
  ·exact h.ns n hn
  have:n=x.n:=dE hn;exact this▸hk
 have nx:x.n∈(cO.go s (.put x.n p c)).aA:=by
  show x.n∈(if x.n∈s.aA then s.aA else s.aA++[x.n]);split
  ·assumption
  simp
 have nk:∀n,n∈s.aA→n∈(cO.go s (.put x.n p c)).aA:=fun n hn=>by
  show n∈(if x.n∈s.aA then s.aA else s.aA++[x.n]);split
  ·exact hn
  exact ik _ hn
 have out:∀n,n∉keys→(cO.go s (.put x.n p c)).now n=old n:=fun n hn=>by
  have:n≠x.n:=fun e=>hn (e▸hk);exact(aY this).trans (h.out n hn)
 have ends:=h.ends x FV
 rw[hx]at ends
 have e1:r.foldl uE ((cO.go s (.put x.n p c)).now x.n)=fin x.n:=by rw[xP];exact ends
 have mem:∀y,y∈A++x.cut::B→y=x.cut∨(y∈A++x::B∧y.n≠x.n):=fun y hy=>by
  rcases eG hy with hy|hy
  ·exact .inr ⟨ik _ hy,nA y hy⟩
  rcases eb hy with hy|hy
  ·exact .inl hy
  exact .inr ⟨il _ (gb _ hy),nB y hy⟩
 have Aw:∀y,y∈A++B→y∈A++x::B∧y.n≠x.n:=fun y hy=>by
  rcases eG hy with hy|hy
  ·exact⟨ik _ hy,nA y hy⟩
  exact⟨il _ (gb _ hy),nB y hy⟩
 constructor
 ·intro hr;refine⟨?_,fun y hy=>?_,fun y hy=>?_,fun y hy=>?_,fun y hy=>?_,fun n hn k=>?_,out,nn,ns⟩
  ·have:=h.nd;rw[bZ,ew]at this ⊢;exact this
  ·rcases mem y hy with rfl|hK
   ·exact hk
   obtain⟨hy,-⟩:=hK;exact h.sub y hy
  ·rcases mem y hy with rfl|hK
   ·rw[Au];exact hr
   obtain⟨hy,-⟩:=hK;exact h.ne y hy
  ·rcases mem y hy with rfl|hK
   ·intro z hz;exact h.fits x FV z (by rw[hx];rw[Au]at hz;exact gb _ hz)
   obtain⟨hy,-⟩:=hK;exact h.fits y hy
  ·rcases mem y hy with rfl|hK
   ·rw[Au];exact e1
   obtain⟨hy,hn⟩:=hK;rw[Av y hn];exact h.ends y hy
  have xP:n≠x.n:=fun e=>k x.cut (by simp) e.symm
  obtain⟨d1,d2⟩:=h.done n hn fun y hy e=>by
   rcases eG hy with hy|hy
   ·exact k y (ik _ hy) e
   rcases eb hy with e0|hy
   ·subst y;exact xP e.symm
   exact k y (il _ (gb _ hy)) e
  exact⟨(aY xP).trans d1,nk n d2⟩
 intro hr
 subst hr
 refine⟨?_,fun y hy=>h.sub y (Aw y hy).1,fun y hy=>h.ne y (Aw y hy).1,fun y hy=>h.fits y (Aw y hy).1,fun y hy=>?_,fun n hn k=>?_,out,nn,ns⟩
 ·have sub:(A++B).Sublist (A++x::B):=List.Sublist.append (.refl _) (List.sublist_cons_self ..);exact(sub.map _).nodup h.nd
 ·rw[Av y (Aw y hy).2];exact h.ends y (Aw y hy).1
 by_cases xP:n=x.n
 ·subst xP;exact⟨e1,nx⟩
 obtain⟨d1,d2⟩:=h.done n hn fun y hy e=>by
  rcases eG hy with hy|hy
  ·exact k y (ik _ hy) e
  rcases eb hy with e0|hy
  ·subst y;exact xP e.symm
  exact k y (il _ hy) e
 exact⟨(aY xP).trans d1,nk n d2⟩
open JL
theorem cb.new{b:Addr}{c:Tag×LO}(h:cb σ a n)(e:σ b=none):cb (upd σ b c) a n:=by
 obtain⟨g,s,m,k,r⟩:=h
 exact⟨g,s,m,(av _ _ (neN k e)).trans k,r⟩
theorem cb.upd{b:Addr}{c:Tag×LO}{ob:LO}(h:cb σ a n)(e:σ b=some (t,ob))(ht:t.1≠1):cb (upd σ b c) a n:=by
 obtain⟨g,s,m,k,r⟩:=h
 exact⟨g,s,m,(av _ _ (iF k e ht.symm)).trans k,r⟩
structure mT(la na ta:Addr)(m:bW)(aA:List Int)(E:List Ent)(σ:St):Prop where
 l:σ la=some ((5,0,0),.list (E.map As))
 n:∃dp,σ na=some ((5,1,0),.dict (aU m) dp)
 t:σ ta=some ((5,2,0),.list (aA.map .int))
 e:∀x∈E,jV σ x
theorem mT.only{la na ta:Addr}{P:Nat→Prop}{m:bW}{aA:List Int}{E:List Ent}(h:mT la na ta m aA E σ)(k:aF P σ σ')(hn:¬P 5):mT la na ta m aA E σ':=
 ⟨k.at h.l hn,let⟨dp,e⟩:=h.n;⟨dp,k.at e hn⟩,k.at h.t hn,fun x hx=>(h.e x hx).only k hn⟩
theorem FX:∀ {m:bW} {k:Int} {b c:bc} (h:cq m k=some c),(eB m k b).length=m.length:=by
 rintro m k b:(_)
 rintro c:(_)
 w_up
 unfold eB
 rw[bh,bB]
 unfold cq at h
 cases q:m.find? fun e=>e.1=k with
 |none=>nomatch q,h
 |some e=>exact any_eq_true.mpr ⟨e,List.mem_of_find?_eq_some q,by simpa using List.find?_some q⟩
section
variable {G:Gd}{σ:St}{Q:LV→St→Prop}{ep:EP}{P:Nat→Prop}{W:Wd}
theorem HX:∀ {a wa oa fa:Addr} {k:Int} {mo mf:bW} {FY df:Nat} {t u:Tag} {wide:Bool} {old fin:Int→bc} (pr:Pr G) (hW:je σ wa W) (e:cb σ a k) (hP:P 1) (F0:P 5) (hk:k≤90000) (eo:σ oa=some (t,.dict (aU mo) FY)) (ef:σ fa=some (u,.dict (aU mf) df)) (ht:t.1≠1∧t.1≠5) (hu:u.1≠1∧u.1≠5) (FT:(mo.map (·.1)).Nodup) (kK:mo.length≤100) (ho:∀n∈W.data,cq mo n=some (old n)∧((old n).length:Int)=W.size) (hF:mQ W mf) (hf:∀x∈mf,fin x.1=x.2) (mJ:1≤mf.length) (cU:(mf.length:Int)≤W.bb) (h:∀hd ds s' σ',(hd=0∨hd=1)→aF P σ σ'→cb σ' a (k+400)→jH W ⟨old,[],0⟩ ds s'→s'.aK=1→(∀n,n∈s'.aA↔n∈mf.map (·.1))→s'.aA.Nodup→(∀n∈mf.map (·.1),s'.now n=fin n)→(∀n,n∉mf.map (·.1)→s'.now n=old n)→ds.length≤1000→Q (.tup [.int hd,.fl (ds.map dC)]) σ'),CallT 3 b0 (.ref 599) G σ Q [.ref a,.ref wa,.ref oa,.ref fa,.bool wide]:=by
 law_purse 0 =>
 revert G σ Q P W
 rintro G σ Q P W a wa oa fa k mo mf FY df t u:(_)
 rintro wide old fin:(_)
 w_up
 obtain⟨K,e1⟩:=id hW
 have k1:=K.p0
 have k2:=K.p1
 have k5:=K.l
 have k6:=K.b
 have dX:=j8 K
 have kY:∀y,y=1→P y:=fun y z=>z▸hP
 wtm_at "Zk b0 c|box world old final wide"
 rintro cx aa L:(_)
 intro F1 F2 F3 F4 F5 F6
 lk
 refine iu (5,0,0) ?_
 rintro la:(_)
 intro F9
 have Ax:=(av σ ((5,0,0),LO.list []) (neN eo F9)).trans eo
 lk
 refine qw Ax ?_
 lk
 refine lM Ax (by unfold aU;rw[bB];exists kK) (bu ?_)
 lk
 refine jr (ps:=aU mo) (t':=(5,1,0)) (.inl rfl) (by unfold aU;rw[bB];exists kK) ?_
 rintro na dp:(_)
 intro kZ
 rw[mS (by unfold aU;rw[ey];exact FT)]
 lk
 refine iu (5,2,0) fun ta BO=>?_
 lk
 refine bu ?_
 lk
 have n1:=neN (aI ..) kZ
 have n2:=neN (aI ..) BO
 have HY:=BO
 rw[av _ _ n2.symm]at HY
 have n3:=neN (aI ..) HY
 have keep:∀ {b:Addr} {c:Tag×LO},σ b=some c→upd (upd (upd σ la ((5,0,0),LO.list [])) na ((5,1,0),LO.dict (aU mo) dp)) ta ((5,2,0),LO.list []) b=some c:=fun {b c} x=>by
  have x1:=(av σ ((5,0,0),LO.list []) (neN x F9)).trans x;have x2:=(av _ ((5,1,0),LO.dict (aU mo) dp) (neN x1 kZ)).trans x1;exact(av _ _ (neN x2 BO)).trans x2
 refine Dy (fun aC ae=>aC "box"=some (.ref a)∧aC "world"=some (.ref wa)∧aC "final"=some (.ref fa)∧aC "wide"=some (.bool wide)∧aC "left"=some (.ref la)∧aC "now"=some (.ref na)∧aC "noted"=some (.ref ta)∧aC "deeds"=some (.fl [])∧aC "calls"=some (.int 0)∧
  aF P σ ae∧cb ae a k∧je ae wa W∧ae fa=some (u,.dict (aU mf) df)∧mT la na ta mo [] [] ae) ?_ ?_
 ·exact⟨rfl,rfl,rfl,rfl,rfl,rfl,rfl,rfl,rfl,(((aF.refl P σ).ja F9).ja kZ).ja BO,((e.new F9).new kZ).new BO,⟨K,keep e1⟩,keep ef,⟨by da_tab,⟨dp,by da_tab⟩,aI ..,fun x hx=>by cases hx⟩⟩
 clear keep n1 n2 n3 BO HY kZ F9 Ax e1 eo ef e hW
 rintro qq Ga ⟨q1,q2,q3,q4,q5,q6,q7,q8,q9,o0,B0,W0,ef,T0⟩:_
 have tX:(dT (aU mf)).length=mf.length:=by unfold dT aU;simp
 have Jk:∀ {i:Nat} {v:LV},(dT (aU mf))[i]?=some v→∃x,mf[i]?=some x∧v=.int x.1:=fun {i v} y=>by
  unfold dT aU at y;rw[ey]at y;exact dj y
 refine gW F2 (by intro _;with_unfolding_all rfl) (yz rfl ?_)
 lk
 refine Dk ef (gV (fun i aC ae=>aC "box"=some (.ref a)∧aC "world"=some (.ref wa)∧aC "final"=some (.ref fa)∧aC "wide"=some (.bool wide)∧aC "left"=some (.ref la)∧aC "now"=some (.ref na)∧aC "noted"=some (.ref ta)∧aC "deeds"=some (.fl [])∧aC "calls"=some (.int 0)∧
  aF P σ ae∧cb ae a (k+13*i)∧je ae wa W∧ae fa=some (u,.dict (aU mf) df)∧∃E:List Ent,E.map (·.n)=(mf.take i).map (·.1)∧mT la na ta mo [] E ae∧∀x∈E,∃b,(x.n,b)∈mf∧yF b x.R∧1≤x.R.length∧x.R.length≤4) ?_ ⟨?_,?_⟩)
 ·exact⟨q1,q2,q3,q4,q5,q6,q7,q8,q9,o0,B0.mono (by room),W0,ef,[],rfl,T0,fun x hx=>by cases hx⟩
 ·clear q1 q2 q3 q4 q5 q6 q7 q8 q9 o0 B0 W0 ef T0;rintro its i v aC ae hv eI ⟨q1,q2,q3,q4,q5,q6,q7,q8,q9,o0,B0,W0,ef,E,hE,T0,hC⟩:_;obtain⟨⟨n,b⟩,hn,rfl⟩:=Jk hv;have hi:i<mf.length:=(List.getElem?_eq_some_iff.mp hn).1;have su:=eF hn;obtain⟨z1,z2⟩:=hF.e (n,b) su;have z2:(b.length:Int)=W.size:=z2;have Gb:E.length=i:=by have:=congrArg List.length hE;simp at this;(have w0:=Ln.gm (i) (mf.length);revert hi this w0;room)
  have WH:cq mf n=some b:=by
   have:=oF (es:=aU mf) (.refl _) (by unfold aU;rw[ey];exact hF.nd) (k:=n) (v:=.bX b) (mem_map.mpr ⟨_,su,rfl⟩);rw[eZ]at this;cases q:cq mf n with
   |none=>nomatch q,this
   |some c=>rw[q]at this;cases this;rfl
  refine cL ?_;lk;refine gE (Q:=fun v σ'=>∃x,v=.int x∧0≤x∧x≤2∧aF (fun y=>y=1) ae σ'∧cb σ' a (k+13*i+1)) (lj ?_) ?_
  ·lk
   ·refine aT (eW (P:=fun y=>y=1) pr B0 rfl (by room) (by room) %[hk,cU,k2|hi] fun d1 dP a3 b3 o3 B3=>?_) rfl;exact⟨d1,rfl,a3,%[|b3],o3,B3⟩
   exact⟨0,rfl,fh _,by decide,.refl _ _,B0.mono (by room)⟩
  rintro _ dP ⟨x,rfl,x0,x1,o3,B3⟩:_;have T3:=T0.only o3 %[|0];have g1:=T3.l;have g2:=o3.at ef hu.1;have g3:=o3.at W0.2 %[|0];lk;refine jq (v:=.bX b) g2 (by rw[eZ,WH];rfl) ?_;lk;refine bu (lQ (.inl (.inr ⟨_,_,rfl,g1⟩)) ?_);lk;have Jl:0≤max x (if(E.map As).isEmpty then 1 else 0)∧max x (if(E.map As).isEmpty then 1 else 0)≤2:=by split<;>exact⟨qg x0 (Int.le_max_left ..),Int.max_le.mpr ⟨x1,by decide⟩⟩
  generalize max x (if(E.map As).isEmpty then 1 else 0)=mx at Jl;refine aT (Qi (P:=fun y=>y=1) (t:=(5,4,n)) pr B3 rfl %[hk,cU,k2|hi] ⟨%[k1,k5|z2],by exists k2,k5,z2⟩ ⟨Jl.1,by exists Jl⟩ fun r R dG o4 B4 cv l1 l2 hr=>?_) rfl;have T4:=T3.only o4 %[|0];lk;refine iu (5,3,n) fun ea tY=>?_;have n1:=neN T4.l tY;have n2:=neN hr tY;lk;refine A2 ((av _ _ n1).trans T4.l) (by rw[bB];exists cU,k2,hi,Gb) ?_;lk;have y1:upd dG ea ((5,3,n),LO.list [.int n,.ref r]) la=_:=(av _ _ n1).trans T4.l;obtain⟨dp',kZ⟩:=T4.n;have n3:=neT kZ T4.l rfl;have n4:=neT T4.t T4.l rfl
  refine⟨⟨_,(av _ _ (iF (o4.at g2 hu.1) T4.l hu.2)).trans ((av _ _ (neN (o4.at g2 hu.1) tY)).trans (o4.at g2 hu.1))⟩,by k_ne,by k_ne,by k_ne,by k_ne,by k_ne,by k_ne,by k_ne,by k_ne,by k_ne,
   ((o0.trans ((o3.trans o4).mono kY)).ja tY).upd y1 F0 F0,((B4.new tY).upd y1 %[|0]).mono (by room),⟨K,(av _ _ (iF (o4.at g3 %[|0]) T4.l %[|0])).trans ((av _ _ (neN (o4.at g3 %[|0]) tY)).trans (o4.at g3 %[|0]))⟩,
   (av _ _ (iF (o4.at g2 hu.1) T4.l hu.2)).trans ((av _ _ (neN (o4.at g2 hu.1) tY)).trans (o4.at g2 hu.1)),E++[⟨n,R,ea,r⟩],?_,⟨?_,⟨dp',(av _ _ n3).trans ((av _ _ (neN kZ tY)).trans kZ)⟩,(av _ _ n4).trans ((av _ _ (neN T4.t tY)).trans T4.t),fun y hy=>?_⟩,fun y hy=>?_⟩
  ·rw[c8 hn,bZ,bZ,hE];rfl
  ·rw[aI,bZ];rfl
  ·rcases eG hy with hy|hy
   ·exact((T4.e y hy).new tY).keep y1 rfl
   have:y=⟨n,R,ea,r⟩:=dE hy;subst this;exact⟨(av _ _ n1.symm).trans (aI ..),(av _ _ (neT hr T4.l rfl)).trans ((av _ _ n2).trans hr)⟩
  rcases eG hy with hy|hy
  ·exact hC y hy
  have:y=⟨n,R,ea,r⟩:=dE hy;subst this;exact⟨b,su,cv,l1,by show R.length≤4;exists Jl,l2⟩
 clear q1 q2 q3 q4 q5 q6 q7 q8 q9 o0 B0 W0 ef T0
 rintro aC ae - ⟨q1,q2,q3,q4,q5,q6,q7,q8,q9,o0,B0,W0,ef,E,hE,T0,hC⟩:_
 rw[tX]at B0 hE
 rw[ib]at hE
 have Gb:E.length=mf.length:=by have:=congrArg List.length hE;simpa using this
 have hsz:0≤W.size:=by exists k1,k5
 have L0:qM old fin (mf.map (·.1)) ⟨old,[],0⟩ E W.size.toNat:=by
  have hb:∀x∈E,∃b:bc,(x.n,b)∈mf∧yF b x.R∧b.length=W.size.toNat∧1≤x.R.length:=fun x hx=>by
   obtain⟨b,h1,h2,h3,h4⟩:=hC x hx;have h5:(b.length:Int)=W.size:=(hF.e _ h1).2;exact⟨b,h1,h2,by(have w0:=Ln.fT (W.size);revert h5 w0;room),h3⟩
  refine⟨by rw[hE];exact hF.nd,fun x hx=>?_,fun x hx=>?_,fun x hx=>?_,fun x hx=>?_,fun n hn y=>?_,fun n _=>rfl,nodup_nil,fun n hn=>by cases hn⟩
  ·rw[← hE];exact i3 hx
  ·obtain⟨b,h1,h2,h3,h4⟩:=hb x hx;exact List.length_pos_iff.mp h4
  ·obtain⟨b,h1,h2,h3,h4⟩:=hb x hx;rw[← h3];exact h2.fits
  ·obtain⟨b,h1,h2,h3,h4⟩:=hb x hx;have:=(ho x.n (hF.e _ h1).1).2;rw[h2.ends (old x.n) (by(have w0:=Ln.fT (W.size);revert h3 this w0;room))];exact(hf _ h1).symm
  rw[← hE]at hn;obtain⟨x,hx,e⟩:=gB hn;exact absurd e (y x hx)
 have nR:hZ E≤16:=by
  have:∀E:List Ent,(∀x∈E,x.R.length≤4)→hZ E≤4*E.length:=fun E=>by
   induction E with
   |nil=>intro _;exact lB _
   |cons x r ih =>
    intro h;have h1:=ih fun y hy=>h y (gb _ hy);have h2:=h x (gQ ..);show hZ ([]++x::r)≤_;rw[qa,gH];show 0+_+_≤_;exists h1,h2
  have:=this E fun x hx=>(hC x hx).choose_spec.2.2.2;exists cU,k2,Gb,this
 lk
 refine gW F2 (by intro _;with_unfolding_all rfl) ?_
 lk
 refine ri F1 F4 F5 (by f_are) (by k_in) (by intro _;with_unfolding_all rfl) (yy rfl ?_)
 lk
 refine Dj T0.l (mH (by rw[bB];exists cU,k2,Gb) (fun i aR bz=>bz=ae∧aR=((E.take i).map fun x=>(x.R.length:Int)).map .int) ⟨rfl,rfl⟩ ⟨?_,?_⟩)
 ·rintro c' ij G1 G5 i v aR bz hv eI ⟨rfl,rfl⟩:_;obtain⟨x,hx,rfl⟩:=dj hv;have X:=T0.e x (eF hx);refine yA (vs:=[.int x.n,.ref x.ra]) (.inl (.inr ⟨_,_,rfl,X.e⟩)) rfl rfl (by f_are) ?_;lk;refine MM X.r (by rw[bB];have:=(hC x (eF hx)).choose_spec.2.2.2;exists this) ?_;refine⟨eI,rfl,?_⟩;rw[c8 hx,bZ,bZ,bB];rfl
 rintro aR bz - ⟨rfl,rfl⟩:_
 refine bu ?_
 rw[bB,ib]
 lk
 refine Hk (.inl (.inl rfl)) ?_
 have Y0:((hZ E:Nat):Int)≤16:=by exists nR
 have Up:((E.map fun x=>(x.R.length:Int))).sum=(hZ E:Nat):=by
  have:∀E:List Ent,((E.map fun x=>(x.R.length:Int))).sum=(hZ E:Nat):=fun E=>by
   induction E with
   |nil=>rfl
   |cons x r ih =>
    rw[ew,List.sum_cons,ih];have:hZ ([]++x::r)=_:=qa [] r x;have e:hZ (x::r)=x.R.length+hZ r:=by rw[show x::r=[]++x::r from rfl,this];show 0+_+_=_;room
    rw[e];push_cast;rfl
  exact this E
 rw[Up]
 lk
 have WI:(bL 0 1 ((hZ E:Nat):Int).toNat).length=hZ E:=iD
 refine gV (fun i aC cg=>aC "box"=some (.ref a)∧aC "world"=some (.ref wa)∧aC "left"=some (.ref la)∧aC "now"=some (.ref na)∧aC "noted"=some (.ref ta)∧
  ∃E' m s ds,aC "deeds"=some (.fl (ds.map dC))∧aC "calls"=some (.int s.aK)∧jH W ⟨old,[],0⟩ ds s∧qM old fin (mf.map (·.1)) s E' W.size.toNat∧hZ E'+i=hZ E∧E'.length≤4∧mT la na ta m s.aA E' cg∧
  (∀n∈W.data,cq m n=some (s.now n)∧((s.now n).length:Int)=W.size)∧(1≤s.aK∨s.aK=0∧s.aA=[])∧s.aK≤i∧ds.length≤2*i∧m.length≤100∧aF P σ cg∧cb cg a (k+60+3*i)∧je cg wa W)
  ⟨q1,q2,q5,q6,q7,E,mo,⟨old,[],0⟩,[],q8,q9,rfl,L0,rfl,%[cU,k2|Gb],T0,ho,.inr ⟨rfl,rfl⟩,fh _,fg _,kK,o0,B0.mono %[cU|k2],W0⟩ ⟨?_,?_⟩
 ·clear q1 q2 q3 q4 q5 q6 q7 q8 q9 o0 B0 W0 ef T0 L0 hC hE;rintro its i v aC cg hv - ⟨q1,q2,q3,q4,q5,E',m,s,ds,q6,q7,t1,L1,t2,t3,T1,hm,hc,Ay,Az,BP,o0,B1,W1⟩:_;obtain⟨hi,rfl⟩:=fW hv;have NP:i<16:=by(have w0:=Ln.fT (↑(hZ E));revert nR hi w0;room)
  obtain⟨dp,en⟩:=T1.n
  have dY:s.aA.length≤4:=by
   have:=sM L1.nn L1.ns;rw[bB]at this;exists cU,k2,this
  refine cL ?_;lk;refine aT (Qj (P:=fun y=>y=1) (s:=s) pr W1 B1 rfl %[hk|NP] en T1.t %[|0] %[|0] (fun n hn=>(hm n hn).1) %[|dY] (by(have q:1≤s.aK∨s.aK=0:=hc.imp_right (·.1);revert nR t2 q Ay;room)) fun v9 s1 iZ o5 B5 A5=>?_) rfl;have T5:=T1.only o5 %[|0];have W5:=o5.at W1.2 %[|0];lk;refine gW F2 (by intro _;with_unfolding_all rfl) (tR rfl ?_);lk
  refine px (gV (fun j cz fN=>cz "box"=some (.ref a)∧cz "world"=some (.ref wa)∧cz "left"=some (.ref la)∧cz "now"=some (.ref na)∧cz "noted"=some (.ref ta)∧cz "deeds"=some (.fl (ds.map dC))∧cz "ahead"=some (.fl (v9.map dC))∧cz "calls"=some (.int ((v9.take j).foldl dc s.aK))∧iZ=fN)
   ⟨by k_ne,by k_ne,by k_ne,by k_ne,by k_ne,by k_ne,rfl,by show((aC.put _ _).put _ _) "calls"=some (LV.int s.aK);back_ro,rfl⟩ ⟨?_,?_⟩)
  ·clear q1 q2 q3 q4 q5 q6 q7;rintro its j v cz fN hv - ⟨q1,q2,q3,q4,q5,q6,q7,q8,rfl⟩:_;obtain⟨d,hd,rfl⟩:=dj hv;have kU:(v9.take (j+1)).foldl dc s.aK=dc ((v9.take j).foldl dc s.aK) d:=by rw[c8 hd,List.foldl_append];rfl
   generalize (v9.take j).foldl dc s.aK=cc at q8 kU;cases d with
   |pZ b =>
    rw[show dC (.pZ b)=LV.tup [.int 0,.int 0,.int 0,.bool b]from rfl];lk;refine⟨trivial,by k_ne,by k_ne,by k_ne,by k_ne,by k_ne,by k_ne,by k_ne,?_,rfl⟩;rw[kU];show some (LV.int (cc+(if b then 1 else 0)-0))=some (LV.int (cc+if b then 1 else 0));rw[Int.sub_zero]
   |put n p c =>
    rw[show dC (.put n p c)=LV.tup [.int 1,.int n,.int p,.bX c]from rfl];lk;refine⟨trivial,by k_ne,by k_ne,by k_ne,by k_ne,by k_ne,by k_ne,by k_ne,?_,rfl⟩;rw[kU];show some (LV.int (cc+0-0))=some (LV.int cc);rw[Int.sub_zero,oS]
   |bk n c =>
    rw[show dC (.bk n c)=LV.tup [.int 2,.int n,.int 0,.bX c]from rfl];lk;refine⟨trivial,by k_ne,by k_ne,by k_ne,by k_ne,by k_ne,by k_ne,by k_ne,?_,rfl⟩;rw[kU];show some (LV.int (cc+0-0))=some (LV.int cc);rw[Int.sub_zero,oS]
   |fin =>
    rw[show dC (.fin)=LV.tup [.int 3,.int 0,.int 0,.bX []]from rfl];lk;refine⟨trivial,by k_ne,by k_ne,by k_ne,by k_ne,by k_ne,by k_ne,by k_ne,?_,rfl⟩;rw[kU];show some (LV.int (cc+0-1))=some (LV.int (cc-1));rw[oS]
  clear q1 q2 q3 q4 q5 q6 q7;rintro cz fN - ⟨q1,q2,q3,q4,q5,q6,q7,q8,rfl⟩:_;rw[bB,ib,← A5.run.aK]at q8;have NQ:0<E'.length:=KU L1.ne (by(have w0:=Ln.fT (↑(hZ E));revert t2 hi w0;room));have g1:=T5.l;have rX:(E'.map As).length=E'.length:=bB ..;lk
  ·exists t3,rX
  refine aT (eW (P:=fun y=>y=1) pr B5 rfl %[NQ|rX] %[t3|rX] %[hk|NP] fun d1 i2 a6 b6 o6 B6=>?_) rfl;have T6:=T5.only o6 %[|0];have W6:=o6.at W5 %[|0];obtain⟨x,hx⟩:∃x,E'[d1.toNat]?=some x:=⟨_,List.getElem?_eq_getElem (by(have w0:=Ln.fT (d1);revert rX a6 b6 w0;room))⟩;have X:=T6.e x (eF hx);have Rp:=L1.sub x (eF hx);obtain⟨⟨xn,xb⟩,FV,WJ⟩:=gB Rp;have nF:x.n∈W.data:=WJ▸(hF.e _ FV).1;obtain⟨tU,Ah⟩:=hm x.n nF
  obtain⟨⟨p,c⟩,R,hR⟩:∃h t,x.R=h::t:=by
   cases q:x.R with
   |nil=>exact absurd q (L1.ne x (eF hx))
   |cons h t=>exact⟨h,t,rfl⟩
  obtain⟨f1,f2⟩:=L1.fits x (eF hx) (p,c) (by rw[hR];exact gQ ..);have fp:0≤p:=f1;have Rq:W.size≤24:=by exists k2,k5
  have NR:p+(c.length:Int)≤24:=by(have w0:=Ln.fT W.size;revert Rq f2 w0;room)
  have f1:0≤p:=f1;have f2:p+(c.length:Int)≤W.size.toNat:=f2;have Xe:=X.e;have Xr:=X.r;rw[hR]at Xr;clear g1;have g1:=T6.l;have gt:=T6.t;lk;refine dD (v:=.ref x.ea) (.inl (.inr ⟨_,_,rfl,g1⟩)) a6 %[t3,rX|b6] (by rw[List.getElem?_map,hx];rfl) ?_;refine yA (vs:=[.int x.n,.ref x.ra]) (.inl (.inr ⟨_,_,rfl,Xe⟩)) rfl rfl (by f_are) ?_;lk
  have NS:E'=E'.take d1.toNat++x::E'.drop (d1.toNat+1):=by
   have hi:d1.toNat<E'.length:=by(have w0:=Ln.fT (d1);revert rX a6 b6 w0;room)
   have:E'.drop d1.toNat=x::E'.drop (d1.toNat+1):=by rw[mY hi,(List.getElem?_eq_some_iff.mp hx).2]
   rw[← this,m7]
  have BL:(E'.take d1.toNat).length=d1.toNat:=by rw[iM];(have w0:=Ln.gm (d1.toNat) (E'.length);have w1:=Ln.fT (d1);revert rX b6 w0 w1;room)
  generalize E'.take d1.toNat=A at NS BL;generalize E'.drop (d1.toNat+1)=B at NS;subst NS;have WK:x.R.length≤hZ E:=by rw[← t2,qa];room
  have Ao:(((p,c)::R).map c7).length≤100:=by rw[← hR,bB];exists nR,WK
  refine uw (v:=c7 (p,c)) Xr %[|Ao] (fh 0) rfl ?_;rw[show(((p,c)::R).map c7).eraseIdx (0:Int).toNat=R.map c7 from rfl];have gn:=T6.n.choose_spec;have m1:=neT gn Xr rfl;have m2:=neT g1 Xr rfl;have m3:=neT gt Xr rfl;have m4:=neT gn g1 rfl;have m5:=neT gn gt rfl;have m6:=neT g1 gt rfl;clear gn;rw[show c7 (p,c)=LV.tup [.int p,.bX c]from rfl];lk;refine jq (v:=.bX (s.now x.n)) ((av _ _ m1).trans T6.n.choose_spec) (by rw[eZ,tU];rfl) ?_;lk;refine ic (x:=none) (y:=some p) rfl rfl %[k2,k5|Ah] ?_;rw[Ar f1];lk;refine uy (by rw[iM];(have w0:=Nat.min_le_left p.toNat (s.now x.n).length;have w1:=Ln.fT p;revert fp NR w0 w1;room)) ?_;lk;refine jq (v:=.bX (s.now x.n)) ((av _ _ m1).trans T6.n.choose_spec) (by rw[eZ,tU];rfl) ?_;lk
  ·exists fp,NR
  refine ic (x:=some (p+c.length)) (y:=none) rfl rfl %[k2,k5|Ah] ?_;rw[uF %[|fp] (by(have w0:=Ln.fT (W.size);revert Ah f2 w0;room))];lk;refine uy (by rw[dv,iM,oV];(have w0:=Nat.min_le_left p.toNat (s.now x.n).length;have w1:=Nat.sub_le (s.now x.n).length (p+(c.length:Int)).toNat;have w2:=Int.toNat_of_nonneg fp;revert Ah Rq fp NR w0 w1 w2;room)) ?_;have WL:List.take p.toNat (s.now x.n)++c++List.drop (p+(c.length:Int)).toNat (s.now x.n)=d6 (s.now x.n) c p.toNat:=by unfold d6;rw[show(p+(c.length:Int)).toNat=p.toNat+c.length by(have w0:=Ln.fT (p+(c.length:Int));have w1:=Ln.fT p;revert fp w0 w1;room)]
  rw[WL];lk;refine CH ((av _ _ m1).trans T6.n.choose_spec) (by unfold aU;rw[bB];exists BP) fun BQ=>?_;rw[kn];have Ge:=T6.n.choose_spec;generalize T6.n.choose=Rr at Ge;have Rt:=A5.aA;have nd:=L1.nd
  obtain⟨nA,nB⟩:(∀y∈A,y.n≠x.n)∧∀y∈B,y.n≠x.n:=by
   rw[bZ,ew,lA,nodup_cons]at nd;exact⟨fun y hy e=>nd.2.2 y.n (i3 hy) x.n (gQ ..) e,fun y hy e=>nd.2.1.1 (e▸i3 (f:=(·.n)) hy)⟩
  have xQ:mT la na ta (eB m x.n (d6 (s.now x.n) c p.toNat)) s.aA (A++x.cut::B) (upd (upd i2 x.ra ((5,4,x.n),.list (R.map c7))) na ((5,1,0),.dict (aU (eB m x.n (d6 (s.now x.n) c p.toNat))) BQ)):=by
   refine⟨?_,⟨BQ,aI ..⟩,(av _ _ m5.symm).trans ((av _ _ m3).trans gt),fun y hy=>?_⟩
   ·rw[av _ _ m4.symm,av _ _ m2,g1,bZ,bZ];rfl
   have xH:∀y∈A++x::B,y.n≠x.n→jV (upd (upd i2 x.ra ((5,4,x.n),.list (R.map c7))) na ((5,1,0),.dict (aU (eB m x.n (d6 (s.now x.n) c p.toNat))) BQ)) y:=fun y hy hn=>by
    have Y:=T6.e y hy;exact(jV.keep (c:=((5,1,0),.dict (aU (eB m x.n (d6 (s.now x.n) c p.toNat))) BQ)) ⟨(av _ _ (neT Y.e Xr rfl)).trans Y.e,(av _ _ (DA Y.r Xr hn)).trans Y.r⟩ ((av _ _ m1).trans Ge) rfl)
   rcases eG hy with hy|hy
   ·exact xH y (ik _ hy) (nA y hy)
   rcases eb hy with e0|hy
   ·subst y;refine⟨(av _ _ (neT Xe Ge rfl)).trans ((av _ _ (neT Xe Xr rfl)).trans Xe),(av _ _ m1.symm).trans ((aI ..).trans ?_)⟩;show _=some ((5,4,x.n),LO.list (x.R.tail.map c7));rw[hR];rfl
   exact xH y (il _ (gb _ hy)) (nB y hy)
  have o7:aF (fun y=>y=5) i2 (upd (upd i2 x.ra ((5,4,x.n),.list (R.map c7))) na ((5,1,0),.dict (aU (eB m x.n (d6 (s.now x.n) c p.toNat))) BQ)):=by refine((aF.refl (fun y=>y=5) i2).upd Xr ?_ ?_).upd ((av _ _ m1).trans Ge) ?_ ?_<;>rfl
  generalize upd (upd i2 x.ra ((5,4,x.n),.list (R.map c7))) na ((5,1,0),.dict (aU (eB m x.n (d6 (s.now x.n) c p.toNat))) BQ)=sI at xQ o7;generalize An:eB m x.n (d6 (s.now x.n) c p.toNat)=m' at xQ;clear Ge Xe Xr g1 gt m1 m2 m3 m4 m5 m6 X
  refine sr (fun bt σ'=>bt "box"=some (.ref a)∧bt "world"=some (.ref wa)∧bt "left"=some (.ref la)∧bt "now"=some (.ref na)∧bt "noted"=some (.ref ta)∧bt "deeds"=some (.fl (ds.map dC))∧bt "ahead"=some (.fl (v9.map dC))∧bt "calls"=some (.int s1.aK)∧bt "at"=some (.int d1)∧bt "number"=some (.int x.n)∧bt "rows"=some (.ref x.ra)∧bt "place"=some (.int p)∧bt "octets"=some (.bX c)∧
   aF (fun y=>y=5) i2 σ'∧mT la na ta m' (cO.go s1 (.put x.n p c)).aA (A++x.cut::B) σ') ?_ ?_
  ·have gt:=xQ.t;have gl:=xQ.l;obtain⟨dq,gn⟩:=xQ.n;have m5:=neT gn gt rfl;have m6:=neT gl gt rfl;lk;refine Bd (ns:=s.aA) (.inl (.inr ⟨_,_,rfl,gt⟩)) ?_;lk
   ·rw[bB];exists dY
   ·rename_i y;have y:x.n∉s.aA:=fun z=>by nomatch(contains_iff_mem.mpr z),y
    refine⟨by k_ne,by k_ne,by k_ne,by k_ne,by k_ne,by k_ne,by k_ne,by k_ne,by k_ne,by k_ne,by k_ne,by k_ne,by k_ne,o7.upd gt rfl rfl,(av _ _ m6).trans gl,⟨dq,(av _ _ m5).trans gn⟩,?_,fun w hw=>(xQ.e w hw).keep gt rfl⟩;rw[aI];show _=some ((5,2,0),LO.list ((if x.n∈s1.aA then s1.aA else s1.aA++[x.n]).map .int));rw[Rt,aY y,bZ];rfl
   rename_i y
   have y:x.n∈s.aA:=by
    by_cases z:x.n∈s.aA
    ·exact z
    nomatch(Bool.eq_false_iff.mpr fun w=>z (contains_iff_mem.mp w)),y
   refine⟨by k_ne,by k_ne,by k_ne,by k_ne,by k_ne,by k_ne,by k_ne,by k_ne,by k_ne,by k_ne,by k_ne,by k_ne,by k_ne,o7,gl,⟨dq,gn⟩,?_,xQ.e⟩;show sI ta=some ((5,2,0),LO.list ((if x.n∈s1.aA then s1.aA else s1.aA++[x.n]).map .int));rw[Rt,bh y];exact gt
  clear xQ o7 q1 q2 q3 q4 q5 q6 q7 q8;rintro qr xR ⟨q1,q2,q3,q4,q5,q6,q7,q8,q9,tZ,wb,q12,q13,o8,T8⟩:_;refine sr (fun bt σ'=>bt=qr∧aF (fun y=>y=5) i2 σ'∧mT la na ta m' (cO.go s1 (.put x.n p c)).aA (if R=[]then A++B else A++x.cut::B) σ') ?_ ?_
  ·have gl:=T8.l;obtain⟨dq,gn⟩:=T8.n;have gt:=T8.t;have Xc:=T8.e x.cut (by simp);have Au:x.cut.R=R:=by show x.R.tail=R;rw[hR];rfl
   have gr:xR x.ra=some ((5,4,x.n),.list (R.map c7)):=by rw[← Au];exact Xc.r
   have m4:=neT gn gl rfl;have m6:=neT gl gt rfl;lk;refine bu (lQ (.inl (.inr ⟨_,_,rfl,gr⟩)) ?_);lk
   ·rename_i y
    have y:R=[]:=by
     cases R with
     |nil=>rfl
     |cons u v=>cases y
    refine uw (v:=.ref x.ea) gl (by rw[bB,dv,gH]at *;exists t3) a6 (by rw[← BL,List.getElem?_map,List.getElem?_append_right (fg _),Nat.sub_self];rfl) ?_;lk;refine⟨rfl,o8.upd gl rfl rfl,?_,⟨dq,(av _ _ m4).trans gn⟩,(av _ _ m6.symm).trans gt,fun w hw=>?_⟩
    ·rw[aI,bh y,xO,← BL,List.eraseIdx_append_of_length_le (fg _),Nat.sub_self];rfl
    rw[bh y]at hw;refine(T8.e w ?_).keep gl rfl;rcases eG hw with hw|hw
    ·exact ik _ hw
    exact il _ (gb _ hw)
   rename_i y;have y:R≠[]:=fun e=>by nomatch e,y
   exact⟨rfl,o8,by rw[aY y];exact T8⟩
  clear T8 o8;rintro jo NT ⟨rfl,o9,T9⟩:_;lk;refine g8 (vs:=ds.map dC) (ws:=v9.map dC) (.inl rfl) (.inl rfl) (by rw[bB,bB];have:=A5.len;exists nR,Az,t2,this) (bu ?_);lk;refine bu ?_;lk;refine g8 (vs:=ds.map dC++v9.map dC) (ws:=[cO.put x.n p c].map dC) (.inl rfl) (.inl rfl) (by rw[dv,bB,bB];have:=A5.len;simp;exists nR,Az,t2,this) (bu ?_);rw[← bZ,← bZ];lk;have L2:qM old fin (mf.map (·.1)) s1 (A++x::B) W.size.toNat:=⟨L1.nd,L1.sub,L1.ne,L1.fits,by rw[A5.now];exact L1.ends,by rw[A5.now,A5.aA];exact L1.done,by rw[A5.now];exact L1.out,by rw[A5.aA];exact L1.nn,by rw[A5.aA];exact L1.ns⟩;obtain⟨L3,L4⟩:=L2.put hR;have dS:1≤s1.aK:=hc.elim A5.c1 fun y=>A5.z y.1 y.2;have Au:x.cut.R.length+1=x.R.length:=by show x.R.tail.length+1=_;rw[hR];rfl
  have tW:cO.Ok W s1 (.put x.n p c):=by
   refine⟨dS,nF,f1,by(have w0:=Ln.fT (W.size);revert hsz f2 w0;room),fun y=>?_⟩;have:=L2.room Rp y;rw[bB]at this;exists cU,this
  have tr:jH W s1 [.put x.n p c] (cO.go s1 (.put x.n p c)):=⟨tW,rfl⟩
  refine⟨trivial,by k_ne,by k_ne,by k_ne,by k_ne,by k_ne,(if R=[]then A++B else A++x.cut::B),m',cO.go s1 (.put x.n p c),(ds++v9)++[.put x.n p c],by k_ne,by show(Loc.put _ _ _) "calls"=some (LV.int s1.aK);back_ro,
   (t1.append A5.run).append tr,?_,?_,?_,T9,fun n hn=>?_,.inl dS,?_,?_,?_,((o0.trans (o5.mono kY)).trans (o6.mono kY)).trans (o9.mono fun _ y=>y▸F0),?_,⟨K,o9.at W6 %[|0]⟩⟩
  ·split
   ·rename_i y;exact L4 y
   rename_i y;exact L3 y
  ·rw[qa]at t2;split
   ·rename_i y;have e:hZ (A++B)=hZ A+hZ B:=by unfold hZ;rw[bZ,List.sum_append]
    rw[hR,y]at t2;rw[e];simp at t2;exists t2
   rw[qa];exists t2,Au
  ·rw[dv,gH]at t3;split
   ·rw[dv];exists t3
   rw[dv,gH];exists t3
  ·rw[← An,js];show(if n=x.n then _ else _)=some (if n=x.n then d6 (s1.now x.n) c p.toNat else s1.now n)∧((if n=x.n then d6 (s1.now x.n) c p.toNat else s1.now n).length:Int)=W.size;rw[A5.now];by_cases y:n=x.n
   ·rw[bh y,bh y];exact⟨rfl,by rw[Ap (by(have w0:=Ln.fT W.size;have w1:=Ln.fT p;revert Ah fp f2 w0 w1;room))];exact Ah⟩
   rw[aY y,aY y];exact hm n hn
  ·have:=A5.up;show s1.aK≤_;push_cast;exists Ay,this
  ·have:=A5.len;rw[dv,dv];simp;exists Az,this
  ·rw[← An,FX tU];exact BP
  exact(B6.only o9 %[|0]).mono (by push_cast;room)
 clear q1 q2 q3 q4 q5 q6 q7 q8 q9 o0 B0 W0 ef T0 L0 hC hE
 rintro aC cg - ⟨q1,q2,q3,q4,q5,E',m,s,ds,q6,q7,t1,L1,t2,t3,T1,hm,hc,Ay,Az,BP,o0,B1,W1⟩:_
 rw[WI]at t2 Ay Az B1
 have NQ:E'=[]:=HW L1.ne %[|t2]
 subst NQ
 have bF:∃n,n∈mf.map (·.1):=by
  cases mf with
  |nil=>simp at mJ
  |cons x r=>exact⟨x.1,gQ ..⟩
 have dS:1≤s.aK:=by
  obtain⟨n,hn⟩:=bF;have:=(L1.done n hn fun x hx=>by cases hx).2;rcases hc with y|hK
  ·exact y
  obtain⟨-,y⟩:=hK;nomatch y,this
 lk
 refine aT (eW (P:=fun y=>y=1) pr B1 rfl (by room) (by room) %[hk|nR] fun hd i2 a6 b6 o6 B6=>?_) rfl
 lk
 refine bu ?_
 lk
 refine r7 (vs:=[cO.fin].map dC) (.inl rfl) (jy rfl) %[nR|Ay] %[|dS] (bu ?_)
 have Uq:ux ([cO.fin].map dC) (s.aK-1).toNat=(List.replicate (s.aK-1).toNat cO.fin).map dC:=by
  generalize (s.aK-1).toNat=k;unfold ux
  induction k with
  |zero=>rfl
  |succ k ih=>rw[m8,List.flatten_cons,ih];rfl
 rw[Uq]
 lk
 refine g8 (vs:=ds.map dC) (ws:=(List.replicate (s.aK-1).toNat cO.fin).map dC) (.inl rfl) (.inl rfl) (by rw[bB,bB,rC];(have w0:=Ln.fT (s.aK-1);revert nR Ay Az w0;room)) (bu ?_)
 rw[← bZ]
 lk
 have Ur:∀(j:Nat) (s:TS),s.aK=1+j→jH W s (List.replicate j cO.fin) {s with aK:=1}:=fun j=>by
  induction j with
  |zero =>
   intro s e;show s=_;obtain⟨a,b,c⟩:=s;have e:c=1:=by simpa using e
   subst e;rfl
  |succ j ih =>
   intro s e;exact⟨by show 1<s.aK;(exists e),ih (cO.go s .fin) (by show s.aK-1=_;exists e)⟩
 refine h hd (ds++List.replicate (s.aK-1).toNat cO.fin) {s with aK:=1} _ %[a6|b6] (o0.trans (o6.mono kY)) (B6.mono %[|nR]) (t1.append (Ur _ s (by(have w0:=Ln.fT (s.aK-1);revert dS w0;room)))) rfl (fun n=>⟨L1.ns n,fun hn=>(L1.done n hn fun x hx=>by cases hx).2⟩) L1.nn (fun n hn=>(L1.done n hn fun x hx=>by cases hx).1) L1.out ?_
 rw[dv,rC];(have w0:=Ln.fT (s.aK-1);revert nR Ay Az w0;room)
end
open JL
theorem BR{vs:List Int}{v:Int}(h:vs[i]?=some v)(aW:bc):(dI vs++aW).getD (4*i) 0=v.toNat.toUInt8:=by
 have hi:i<vs.length:=(List.getElem?_eq_some_iff.mp h).1
 have e:=xJ vs i
 have:vs.drop i=v::vs.drop (i+1):=by rw[mY hi,(List.getElem?_eq_some_iff.mp h).2]
 rw[this]at e
 have hl:=lP vs
 rw[List.getD_eq_getElem?_getD,List.getElem?_append_left %[hi|hl]]
 have:(dI vs)[4*i]?=((dI vs).drop (4*i))[0]?:=by rw[List.getElem?_drop,Nat.add_zero]
 rw[this,e];rfl
theorem BS{v:Int}(h0:0≤v)(h1:v<256):(v.toNat.toUInt8.toNat:Int)=v:=by
 have:v.toNat.toUInt8.toNat=v.toNat:=by exact Nat.mod_eq_of_lt (by(have w0:=Ln.fT v;revert h1 w0;room))
 rw[this];(have w0:=Ln.fT (v);revert h0 w0;room)
section
variable {G:Gd}{σ:St}{Q:LV→St→Prop}{ep:EP}{o q z:Nat}{c d j:Addr}{ay:Int}{D:aE}{aJ:Act}{cnt w:Nat}{P:Nat→Prop}{J:AJ}{au:Int→bc}{W:Wd}
theorem Gf(pr:Pr G)(hC:aS o q ay c d w D σ J.ab.length aJ)(hJ:eU j c z σ J)(O:Own o q z)(jO:P 0)(eJ:P o)(eV:P q)(jP:P z)(h1:J.aK=1)(bF:J.ab≠[])(hw:w+6*J.ab.length+20≤7000)(hd:D.cj=false)(gO:(J.ab.length:Int)<ay)(K:yE J D aJ au)
 (h:∀D' σ' w',w'≤w+6*J.ab.length+20→bH D (cB J.af D.size au J.ab)=some D'→aF P σ σ'→aS o q ay c d w' D' σ' 0 (fun _=>none)→eU j c z σ' {J with ab:=[],dQ:=J.dQ+1,aK:=0}→Q (.bool true) σ')
 (hc:bH D (cB J.af D.size au J.ab)=none→∀σ',aF P σ σ'→gp σ' o q c d (dN D (cB J.af D.size au J.ab))→Q (.bool false) σ'):CallT 12 b0 (.ref 620) G σ Q [.ref j]:=by
 obtain⟨hl,he,dx,l,nd,es,dp,e1,e2,e3,e4⟩:=id hJ
 wtm_at "fnK b0|journal"
 intro cx aa F1 F2 F3
 refine mP (Mx ?_ F3 (cu F1 %[|0]) (pr.glob %[|0]).1 (tm pr).own (tm pr).tup F2 (by f_are))
 lk
 refine fu (Qd (P:=P) (au:=au) pr hC hJ O jO eJ eV jP h1 bF hw hd gO K (fun D' σ' w' vZ r1 o1 C1 J1=>?_) fun r1 σ' o1 rj=>⟨rfl,hc r1 σ' o1 rj⟩) rfl
 lk
 exact h D' σ' w' vZ r1 o1 C1 J1
theorem Jo:∀ {wa va:Addr} {t:Tag} {m:bW} {dp:Nat} (pr:Pr G) (hW:je σ wa W) (hD:bY σ o d D) (ev:σ va=some (t,.dict (aU m) dp)) (hd:D.cj=false) (ok:D.Ok w) (hw:w≤8000) (hb:D.aQ=W.aQ) (hs:D.size=W.size) (hv:∀n∈W.data,cq m n=some (D.bk n)) (h0:D.bk W.af=List.replicate W.size.toNat 0) (hu:D.bx=[]) (h:Q (.bool true) σ),CallT 5 b0 (.ref 649) G σ Q [.ref wa,.ref d,.ref va]:=by
 law_purse 0 =>
 revert G σ Q o d D w W
 rintro G σ Q o d D w W wa va t m:(_)
 rintro dp:(_)
 w_up
 obtain⟨K,e1⟩:=id hW
 have k1:=K.p0
 have k2:=K.p1
 have k3:=K.s0
 have k4:=K.s1
 have k5:=K.l
 have k6:=K.b
 have dX:=j8 K
 have qN:(W.data.map LV.int).length=W.data.length:=bB ..
 obtain⟨dx,dk,dl,du,oH,oI,d1,d2,d3,d4⟩:=id hD
 wtm_at "Zk b0 c|world disk view"
 rintro cx aa L:(_)
 intro F1 F2 F3 F4 F5 F6
 refine mP (IJ F1 F4 F5 (by f_are) (by k_in) (by k_in) (by intro _;with_unfolding_all rfl) (tR rfl ?_))
 lk
 refine px (mH %[k2,dX|qN] (fun i aR ae=>σ=ae∧aR=jD ((W.data.take i).map D.bk)) ⟨rfl,rfl⟩ ⟨?_,?_⟩)
 ·rintro c' ij G1 G5 i v aR ae iG - ⟨rfl,rfl⟩:_;obtain⟨n,hn,rfl⟩:=dj iG;obtain⟨x1,x2,x3⟩:=eX.mp (eF hn);refine cL ?_;lk;refine aT (vS pr hD hd x1 (by rw[hb];exact x2) (ok.mono %[|hw]) ?_) rfl;refine⟨trivial,rfl,?_⟩;unfold jD;rw[c8 hn,bZ,bZ];rfl
 rintro aR ae - ⟨rfl,rfl⟩:_
 rw[qN,ib]
 refine bu fun its=>?_
 lk
 refine ri F1 F4 F5 (by f_are) (by k_in) (by intro _;with_unfolding_all rfl) (tR rfl ?_)
 lk
 refine px (mH %[k2,dX|qN] (fun i aR bz=>σ=bz∧aR=jD ((W.data.take i).map D.bk)) ⟨rfl,rfl⟩ ⟨?_,?_⟩)
 ·rintro c' ij G1 G5 i v aR bz iG - ⟨rfl,rfl⟩:_;obtain⟨n,hn,rfl⟩:=dj iG;refine cL ?_;lk;refine jq (v:=.bX (D.bk n)) ev (by rw[eZ,hv n (eF hn)];rfl) ?_;refine⟨trivial,rfl,?_⟩;unfold jD;rw[c8 hn,bZ,bZ];rfl
 rintro aR bz - ⟨rfl,rfl⟩:_
 rw[qN,ib]
 refine bu ?_
 refine qu (.inl (.inl rfl)) (.inl (.inl rfl)) (zr (W.data.map D.bk) (W.data.map D.bk)) ?_
 rw[show(W.data.map D.bk==W.data.map D.bk)=true by simp]
 lk
 refine aT (vS pr hD hd k3 %[hb,k1,k4,k5|k6] (ok.mono %[|hw]) ?_) rfl
 rw[h0]
 lk
 refine pn %[k1|k5] %[k2|k5] ?_
 refine Kl ?_
 rw[show(List.replicate W.size.toNat (0:UInt8)==List.replicate W.size.toNat 0)=true by simp]
 lk
 refine bu ?_
 refine lQ (.inl (.inr ⟨_,_,rfl,d4⟩)) ?_
 rw[hu]
 lk
 exact h
end
open JL
noncomputable def iH(D:aE)(af:Int)(ab:List Int):bW:=ab.zipIdx.map fun p=>(p.1,D.bk (af+1+(p.2:Int)))
theorem sO(D:aE)(af:Int)(ab:List Int):(iH D af ab).map (·.1)=ab:=by
 unfold iH
 rw[ey]
 have:((fun x:Int×bc=>x.1)∘fun p:Int×Nat=>(p.1,D.bk (af+1+(p.2:Int))))=Prod.fst:=rfl
 rw[this,List.zipIdx_map_fst]
theorem Gg(D:aE)(af:Int)(ab:List Int)(n:Int):iH D af (ab++[n])=iH D af ab++[(n,D.bk (af+1+(ab.length:Int)))]:=by
 unfold iH
 rw[List.zipIdx_append,bZ,List.zipIdx_singleton];simp
theorem xS(ab:List Int)(s:Int):br ab s=dI ((ab.length:Int)::ab)++List.replicate (s-4*(ab.length+1)).toNat 0:=rfl
section
variable {G:Gd}{σ:St}{Q:LV→St→Prop}{ep:EP}{o:Nat}{d:Addr}{D:aE}{w:Nat}{W:Wd}
theorem Us:∀ {wa:Addr} {t:Tag} {ab:List Int} (pr:Pr G) (hW:je σ wa W) (hD:bY σ o d D) (hd:D.cj=false) (ok:D.Ok w) (hw:w≤8000) (hb:D.aQ=W.aQ) (hs:D.size=W.size) (h0:D.bk W.af=br ab W.size) (hn:∀n∈ab,0≤n∧n<256) (nd:ab.Nodup) (hl:(ab.length:Int)≤W.bb) (h:∀x dp,σ x=none→Q (.ref x) (upd σ x (t,.dict (aU (iH D W.af ab)) dp))),CallT 4 b0 (.ref 644) G σ Q [.ref wa,.ref d]:=by
 law_purse 0 =>
 revert G σ Q o d D w W
 rintro G σ Q o d D w W wa:(_)
 rintro t ab:(_)
 w_up
 obtain⟨K,e1⟩:=id hW
 have k1:=K.p0
 have k2:=K.p1
 have k3:=K.s0
 have k4:=K.s1
 have k5:=K.l
 have k6:=K.b
 have oJ:((br ab W.size).length:Int)=W.size:=oK ab %[hl|k5]
 obtain⟨dx,dk,dl,du,oH,oI,d1,d2,d3,d4⟩:=id hD
 wtm_at "Zk b0 c|world disk"
 rintro cx aa L:(_)
 intro F1 F2 F3 F4 F5 F6
 lk
 refine aT (vS pr hD hd k3 %[hb,k1,k4,k5|k6] (ok.mono %[|hw]) ?_) rfl
 rw[h0]
 lk
 have I9:(ab.length:Int)≤4:=qg hl k2
 refine ri F1 F4 F5 (by f_are) (by k_in) (by intro _;with_unfolding_all rfl) ?_
 lk
 refine EI (fh 0) %[k1,k5|oJ] %[k2,k5|oJ] ?_
 have Nc:(((br ab W.size).getD (0:Int).toNat 0).toNat:Int)=ab.length:=by
  rw[xS,show(0:Int).toNat=4*0 from rfl,BR (vs:=(ab.length:Int)::ab) (i:=0) rfl];exact BS (by room) %[hl|k2]
 rw[Nc]
 lk
 have lr:(bL 0 1 ((ab.length:Nat):Int).toNat).length=ab.length:=iD
 refine mH %[hl,k2|lr] (fun i aR ae=>σ=ae∧aR=iE (aU (iH D W.af (ab.take i)))) ⟨rfl,rfl⟩ ⟨?_,?_⟩
 ·rintro c' ij:(_);rintro G1 G5 i v aR ae hv - ⟨rfl,rfl⟩:_;obtain⟨hi,rfl⟩:=fW hv;have hi:i<ab.length:=hi;have Mo:(i:Int)≤4:=Int.le_of_lt (Int.lt_of_lt_of_le (Int.ofNat_lt.mpr hi) I9);obtain⟨n,hx⟩:∃x,ab[i]?=some x:=⟨_,List.getElem?_eq_getElem hi⟩;obtain⟨n0,n1⟩:=hn n (eF hx);have e0:(0:Int)+(i:Int)*1=i:=by room
  rw[e0];refine cL ?_;lk;refine EI (by room) %[hl,k5,oJ|hi] %[k2,k5|oJ] ?_
  have hg:(((br ab W.size).getD (4+4*(i:Int)).toNat 0).toNat:Int)=n:=by
   rw[xS,show(4+4*(i:Int)).toNat=4*(i+1)by(have w0:=Ln.fT (4+4*↑i);revert w0;room),BR (vs:=(ab.length:Int)::ab) (i:=i+1) (v:=n) (by rw[List.getElem?_cons_succ];exact hx)];exact BS n0 n1
  rw[hg];lk;refine aT (vS pr hD hd %[|k3] (by(revert hb hl k4 k5 k6 hi;kt_len)) (ok.mono %[|hw]) ?_) rfl;lk;refine⟨trivial,rfl,?_⟩;have tO:(ab.take i).length=i:=by rw[iM];(have w0:=Ln.gm (i) (ab.length);revert hi w0;room)
  rw[c8 hx,Gg,tO];unfold iE aU;rw[bZ,bZ];rfl
 rintro aR ae - ⟨rfl,rfl⟩:_
 rw[lr,ib]
 refine bu ?_
 lk
 have tX:(iH D W.af ab).length=ab.length:=by have:=congrArg List.length (sO D W.af ab);simpa using this
 refine jr (ps:=aU (iH D W.af ab)) (t':=t) (.inl rfl) (by unfold aU;rw[bB];exists hl,k2,tX) fun x dp hx=>?_
 rw[mS (by unfold aU;rw[ey];show((iH D W.af ab).map (·.1)).Nodup;rw[sO];exact nd)]
 exact h x dp hx
end
open JL
noncomputable def fA(fl:Int)(cs:List Int):Bool:=decide (1<fl)||(fl==1&&!cs.isEmpty)
noncomputable def bM(fl:Int)(cs:List Int):Bool:=fl==2||((fl==1||fl==3)&&((fl==1)==!cs.isEmpty))
structure oN(W:Wd)(fin old:Int→bc)(mf:bW)(nw:Int→bc)(ab:List Int)(A:aE)(new hd:Bool):Prop where
 perm:ab.Perm (mf.map (·.1))
 head:A.bk W.af=br (if hd then ab else[]) W.size
 log:hd=true→∀(i:Nat) (n:Int),ab[i]?=some n→A.bk (W.af+1+i)=fin n
 data:∀n∈W.data,(if hd=true∧n∈ab then fin n else A.bk n)=if new then nw n else old n
theorem Gh{m:bW}(nd:(m.map (·.1)).Nodup){n:Int}{b:bc}(h:(n,b)∈m):cq m n=some b:=by
 revert nd h
 revert m n b
 rintro m n b:(_)
 intro nd h
 have:=oF (es:=aU m) (.refl _) (by unfold aU;rw[ey];exact nd) (k:=n) (v:=.bX b) (mem_map.mpr ⟨_,h,rfl⟩)
 rw[eZ]at this
 cases q:cq m n with
 |none=>nomatch q,this
 |some c=>rw[q]at this;cases this;rfl
noncomputable def fJ:List Op→Int
 |[]=>0
 |.wr _ _::r=>fJ r+1
 |.fl::r=>fJ r
theorem Bk(ops:List Op):∀ {D D'},bH D ops=some D'→D'.writes=D.writes+fJ ops:=by
 induction ops with
 |nil=>intro D D' h;cases h;exact(oS _).symm
 |cons x r ih =>
  intro D D' h;cases x with
  |wr n c =>
   first|rw[ej]at h|rw[ek]at h
   split at h
   ·cases h
   rw[ih h];show D.writes+1+fJ r=D.writes+(fJ r+1);room
  |fl =>
   first|rw[ej]at h|rw[ek]at h
   split at h
   ·cases h
   rw[ih h];rfl
theorem Gi{ops:List Op}{x:Op}:∀ {D D':aE},bH D (ops++[x,.fl])=some D'→D'.bx=[]:=by
 intro D D' h
 have e:ops++[x,.fl]=(ops++[x])++[.fl]:=by rw[gq];rfl
 rw[e,cN]at h
 cases q:bH D (ops++[x])with
 |none=>nomatch q,h
 |some D1 =>
  rw[q]at h;have h:bH D1 [.fl]=some D':=h
  first|rw[ej]at h|rw[ek]at h
  split at h
  ·cases h
  cases h;rfl
noncomputable def aE.tv(D:aE)(n:Int):bc:=(cq (bS D.kept D.bx) n).getD (List.replicate D.size.toNat 0)
noncomputable def aE.mK(D:aE):Prop:=∀n,D.bk n=D.tv n
theorem Jp(D:aE)(k n:Int)(b:bc):(D.wr k b).tv n=if n=k then b else D.tv n:=by
 show(cq (bS D.kept (D.bx++[(k,b)])) n).getD _=_
 rw[pz,js]
 split<;>rfl
theorem aE.mK.wr{D:aE}(h:D.mK)(k:Int)(b:bc):(D.wr k b).mK:=fun n=>by rw[Jp,pV,h n]
theorem aE.mK.fl{D:aE}(h:D.mK):D.fl.mK:=fun n=>h n
theorem aE.mK.jN(D:aE)(cs:List Int):(D.jN cs).mK:=fun _=>rfl
theorem uG(ops:List Op):∀ {D D':aE},D.mK→bH D ops=some D'→D'.mK:=by
 induction ops with
 |nil=>intro D D' s h;cases h;exact s
 |cons x r ih =>
  intro D D' s h;cases x with
  |wr n c =>
   first|rw[ej]at h|rw[ek]at h
   split at h
   ·cases h
   exact ih (s.wr n c) h
  |fl =>
   first|rw[ej]at h|rw[ek]at h
   split at h
   ·cases h
   exact ih s.fl h
theorem KV(au:Int→bc)(ab:List Int)(r:List Op):fJ (cQ au ab++r)=ab.length+fJ r:=by
 induction ab with
 |nil=>show fJ r=((0:Nat):Int)+fJ r;room
 |cons n t ih=>show fJ (cQ au t++r)+1=_;rw[ih,gH];push_cast;room
theorem xT{a b:List Int}(h:a.Perm b):hH a=hH b:=by
 refine zH ((List.mergeSort_perm a _).trans h) ?_
 have:=List.pairwise_mergeSort (le:=fun a b:Int=>decide (a≤b)) (fun a b c h1 h2=>by simp at *;exists h1,h2) (fun a b=>by simp;room) a
 exact this.imp fun h=>by simpa using h
theorem NU:∀ {W:Wd} {A:aE} {hd new:Bool} {fin old nw:Int→bc} {mf:bW} {ab:List Int} (R:oN W fin old mf nw ab A new hd) (nd:(mf.map (·.1)).Nodup) (hf:∀x∈mf,fin x.1=x.2),sb (iH A W.af (if hd then ab else[])) (if hd then mf else[])=true:=by
 rintro W A hd new fin old nw mf ab:(_)
 w_up
 cases hd with
 |false=>rfl
 |true =>
  simp only[if_true];unfold sb;rw[jA];constructor
  ·have h1:(iH A W.af ab).length=ab.length:=by have:=congrArg List.length (sO A W.af ab);simpa using this
   have h2:=R.perm.length_eq;rw[bB]at h2;rw[h1,h2];simp
  rw[all_eq_true];intro p hp;unfold iH at hp;obtain⟨⟨n,i⟩,hq,rfl⟩:=gB hp;have hi:=List.mem_zipIdx_iff_getElem?.mp hq;have hi:ab[i]?=some n:=hi;have hn:n∈mf.map (·.1):=R.perm.mem_iff.mp (eF hi);obtain⟨⟨k,b⟩,hb,e⟩:=gB hn;have e:k=n:=e;subst e;show(cq mf k==some (A.bk (W.af+1+(i:Int))))=true;rw[Gh nd hb,R.log rfl i k hi,hf _ hb];simp
section
variable {G:Gd}{σ:St}{Q:LV→St→Prop}{ep:EP}{o q z o2 q2 z2:Nat}{c d j:Addr}{D:aE}{w:Nat}{P:Nat→Prop}{W:Wd}
theorem DK:∀ {a wa sa oa na fa:Addr} {kk k fl:Int} {ts t1 t2 t3:Tag} {mo mn mf:bW} {p1 p2 p3:Nat} {fin old nw:Int→bc} {ab:List Int} (pr:Pr G) (hW:je σ wa W) (e:cb σ a kk) (hk0:kk≤90000) (hk:k=0∨k=1) (es:σ sa=some (ts,.list [.ref c,.ref j])) (hD:gp σ o q c d D) (ok:D.Ok w) (hw:w≤1000) (hb:D.aQ=W.aQ) (hs:D.size=W.size) (eo:σ oa=some (t1,.dict (aU mo) p1)) (en:σ na=some (t2,.dict (aU mn) p2)) (ef:σ fa=some (t3,.dict (aU mf) p3)) (O:Own o2 q2 z2) (bF:o2≠q2) (yG:∀x,x=o2∨x=q2∨x=z2→x≠o∧x≠q∧10≤x∧x≠ts.1∧x≠t1.1∧x≠t2.1∧x≠t3.1) (kU:ts.1≠1∧ts.1≠0∧t1.1≠1∧t1.1≠0∧t2.1≠1∧t2.1≠0∧t3.1≠1∧t3.1≠0∧ts.1≠3∧ts.1≠t1.1∧ts.1≠t2.1∧ts.1≠t3.1) (NV:10≤o∧10≤q) (jO:P 0) (Jq:P 1) (mI:P ts.1) (eJ:P o2) (eV:P q2) (jP:P z2) (mj:0≤fl∧fl≤3) (hF:mQ W mf) (hf:∀x∈mf,fin x.1=x.2) (mJ:1≤mf.length) (cU:(mf.length:Int)≤W.bb) (ho:∀n∈W.data,cq mo n=some (old n)) (hn:∀n∈W.data,cq mn n=some (nw n)) (hR:∀cs:List Int,(∀x∈cs,0≤x∧x<D.bx.length)→oN W fin old mf nw ab (D.jN cs) (fA fl cs) (bM fl cs)) (h:∀(b:Bool) c' j' d' D' w' σ',w'≤2*w+60→aF P σ σ'→cb σ' a (kk+1000)→σ' sa=some (ts,.list [.ref c',.ref j'])→aS o2 q2 (W.room k) c' d' w' D' σ' 0 (fun _=>none)→eU j' c' z2 σ' W.J→D'.aQ=W.aQ→D'.size=W.size→D'.cj=false→D'.last=none→D'.bl=none→D'.bx=[]→D'.mK→D'.bk W.af=List.replicate W.size.toNat 0→(∀n∈W.data,D'.bk n=if b then nw n else old n)→Q (.str (if b then("new" : Str)else("old" : Str))) σ'),CallT 13 b0 (.ref 654) G σ Q [.ref a,.ref wa,.ref sa,.int k,.ref oa,.ref na,.ref fa,.int fl]:=by
 law_purse 0 =>
 revert G σ Q o q o2 q2 z2 c d j D w P W
 rintro G σ Q o q o2 q2 z2 c d j D w P W a wa sa oa na:(_)
 rintro fa kk k fl ts t1 t2 t3 mo mn mf p1 p2 p3 fin old:(_)
 rintro nw ab:(_)
 w_up
 obtain⟨K,e1⟩:=id hW
 obtain⟨hD,kW,cm,WM,cr,NW,NX,NY,NZ,ec⟩:=hD
 have k1:=K.p0
 have k2:=K.p1
 have k3:=K.s0
 have k4:=K.s1
 have k5:=K.l
 have k6:=K.b
 have hm:=ok.m
 obtain⟨I6,dk,dl,du,oH,oI,d1,d2,d3,d4⟩:=id hD
 have N0:(D.bx.map c7).length=D.bx.length:=bB ..
 have hu9:((D.bx.map c7).length:Int)≤1000:=by(revert hw hm N0;kt_len)
 wtm_at "Zk b0 c|box world side k old new final flushes"
 rintro cx aa L:(_)
 intro F1 F2 F3 F4 F5 F6
 lk
 refine IJ F1 F4 F5 (by f_are) (by k_in) (by k_in) (by intro _;with_unfolding_all rfl) ?_
 lk
 ·(revert hw hm N0;kt_len)
 rw[N0]
 have lr:(bL 0 1 ((D.bx.length:Nat):Int).toNat).length=D.bx.length:=iD
 refine mH (by(revert hw hm lr;kt_len)) (fun i aR ae=>∃cs:List Int,aR=cs.map .int∧(∀x∈cs,0≤x∧x<i)∧cs.length≤i∧aF (fun y=>y=1) σ ae∧cb ae a (kk+i)) ⟨[],rfl,fun x hx=>(by cases hx),fg _,.refl _ _,e.mono (by room)⟩ ⟨?_,?_⟩
 ·rintro c' ij G1 G5 i v aR ae hv - ⟨cs,rfl,x1,x2,x3,x4⟩:_;obtain⟨hi,rfl⟩:=fW hv;have hi:i<D.bx.length:=hi;refine cL ?_;lk;refine aT (eW (P:=fun y=>y=1) pr x4 rfl (by room) (by room) (by(revert hk0 hw hm hi;kt_len)) fun d1 dP a3 b3 o3 B3=>?_) rfl;lk
  ·refine⟨trivial,cs++[0+(i:Int)*1],by rw[bZ];rfl,fun x hx=>?_,by rw[dv];simp;(exists x2),x3.trans o3,B3.mono (by push_cast;room)⟩;rcases eG hx with hx|hx
   ·have:=x1 x hx;push_cast;exists this
   have:x=0+(i:Int)*1:=by simpa using hx
   push_cast;exists this
  exact⟨trivial,cs,rfl,fun x hx=>by have:=x1 x hx;push_cast;(exists this),%[|x2],x3.trans o3,B3.mono (by push_cast;room)⟩
 rintro aR ae - ⟨cs,rfl,x1,x2,x3,x4⟩:_
 rw[lr]at x1 x2 x4
 have hR:=hR cs x1
 generalize hA:D.jN cs=A at hR
 refine bu fun its=>?_
 have e1:=x3.at e1 %[|0]
 have es:=x3.at es kU.1
 have eo:=x3.at eo kU.2.2.1
 have en:=x3.at en kU.2.2.2.2.1
 have ef:=x3.at ef kU.2.2.2.2.2.2.1
 have jc:=hD.only x3 %[|NV]
 obtain⟨I6,dk,dl,du,oH,oI,d1,d2,d3,d4⟩:=id jc
 have iG:=yG o2 (.inl rfl)
 lk
 refine aT (Nh (P:=fun y=>y=o2) (o':=o2) pr jc rfl %[|iG] %[hb,k1,k4,k5|k6] (ok.mono %[|hw]) x1 (by(revert hw hm x2;kt_len)) fun d' dP o3 D3=>?_) rfl
 rw[hA]at D3
 have Ru:A.Ok (2*w):=by rw[← hA];exact ok.jN cs
 have t9:A.size=W.size:=by rw[← hA];exact hs
 have BU:A.aQ=W.aQ:=by rw[← hA];exact hb
 have e1:=o3.at e1 (by show ¬3=o2;exists iG)
 have es:=o3.at es %[|iG]
 have eo:=o3.at eo %[|iG]
 have en:=o3.at en %[|iG]
 have ef:=o3.at ef %[|iG]
 have B3:=x4.only o3 %[|iG]
 refine Nf F1 %[|0] ?_
 refine sr (fun bt σ'=>bt=(((((fq ["box","world","side","k","old","new","final","flushes"] [.ref a,.ref wa,.ref sa,.int k,.ref oa,.ref na,.ref fa,.int fl]).put "late" (.ref d)).put "some" (.fl (cs.map .int))).put "disk" (.ref d')).put "is_new" (.bool (fA fl cs)))∧dP=σ') ?_ ?_
 ·lk
  ·rename_i y;exact⟨congrArg (fun b=>Loc.put "is_new" _ (LV.bool b)) (by unfold fA;rw[y];rfl),rfl⟩
  ·rename_i y1 y2;refine bu (fX (.inl (.inl rfl)) ?_);lk;exact⟨congrArg (fun b=>Loc.put "is_new" _ (LV.bool b)) (by unfold fA;rw[y1,y2,List.isEmpty_map];rfl),rfl⟩
  rename_i y1 y2;exact⟨congrArg (fun b=>Loc.put "is_new" _ (LV.bool b)) (by unfold fA;rw[y1,y2];rfl),rfl⟩
 rintro _ dP ⟨rfl,rfl⟩:_
 refine sr (fun bt σ'=>bt=((((((fq ["box","world","side","k","old","new","final","flushes"] [.ref a,.ref wa,.ref sa,.int k,.ref oa,.ref na,.ref fa,.int fl]).put "late" (.ref d)).put "some" (.fl (cs.map .int))).put "disk" (.ref d')).put "is_new" (.bool (fA fl cs))).put "is_headed" (.bool (bM fl cs)))∧dP=σ') ?_ ?_
 ·lk
  ·rename_i y;exact⟨congrArg (fun b=>Loc.put "is_headed" _ (LV.bool b)) (by unfold bM;rw[y];rfl),rfl⟩
  rename_i y1;refine Ko (ns:=[1,3]) ?_;have hc:([1,3]:List Int).contains fl=(fl==1||fl==3):=by show(fl==1||(fl==3||false))=_;rw[Bool.or_false]
  rw[hc];lk
  ·rename_i y2;refine bu (fX (.inl (.inl rfl)) ?_);lk;exact⟨congrArg (fun b=>Loc.put "is_headed" _ (LV.bool b)) (by unfold bM;rw[y1,y2,List.isEmpty_map];rfl),rfl⟩
  rename_i y2;exact⟨congrArg (fun b=>Loc.put "is_headed" _ (LV.bool b)) (by unfold bM;rw[y1,y2];rfl),rfl⟩
 rintro _ dP ⟨rfl,rfl⟩:_
 lk
 have nS:(if bM fl cs then ab else[]).Nodup∧(∀n∈(if bM fl cs then ab else[]),0≤n∧n<256)∧(((if bM fl cs then ab else[]).length:Int)≤W.bb):=by
  have fB:ab.Nodup:=hR.perm.nodup_iff.mpr hF.nd;have dY:=hR.perm.length_eq;rw[bB]at dY;split
  ·refine⟨fB,fun n hn=>?_,by exists cU,dY⟩;obtain⟨x,hx,rfl⟩:=gB (hR.perm.mem_iff.mp hn);have:=eX.mp (hF.e x hx).1;exists k2,k5,k6,this
  exact⟨nodup_nil,fun n hn=>(by cases hn),by show((0:Nat):Int)≤_;exists k1⟩
 refine aT (Us (t:=(0,0,0)) pr ⟨K,e1⟩ D3 (by rw[← hA];rfl) Ru %[|hw] BU t9 hR.head nS.2.1 nS.1 nS.2.2 fun lx AA Gj=>?_) rfl
 have keep:∀ {b:Addr} {c:Tag×LO},dP b=some c→upd dP lx ((0,0,0),LO.dict (aU (iH A W.af (if bM fl cs then ab else[]))) AA) b=some c:=fun x=>(av _ _ (neN x Gj)).trans x
 have f1:=keep e1
 have fs:=keep es
 have fo:=keep eo
 have fn:=keep en
 have ff:=keep ef
 have Gk:=aI dP lx ((0,0,0),LO.dict (aU (iH A W.af (if bM fl cs then ab else[]))) AA)
 have D4:=D3.new (c:=((0,0,0),LO.dict (aU (iH A W.af (if bM fl cs then ab else[]))) AA)) Gj
 have B4:=B3.new (c:=((0,0,0),LO.dict (aU (iH A W.af (if bM fl cs then ab else[]))) AA)) Gj
 have o4:=((x3.mono (P':=P) fun _ y=>y▸Jq).trans (o3.mono fun _ y=>y▸eJ)).ja (c:=((0,0,0),LO.dict (aU (iH A W.af (if bM fl cs then ab else[]))) AA)) Gj
 generalize upd dP lx ((0,0,0),LO.dict (aU (iH A W.af (if bM fl cs then ab else[]))) AA)=dG at f1 fs fo fn ff Gk D4 B4 o4
 clear keep e1 es eo en ef D3 B3 Gj
 lk
 refine gE (Q:=fun v σ'=>∃fx tt dp,v=.ref fx∧σ' fx=some (tt,.dict (aU (if bM fl cs then mf else[])) dp)∧σ' lx=some ((0,0,0),LO.dict (aU (iH A W.af (if bM fl cs then ab else[]))) AA)∧aF (fun _=>False) dG σ') (lj ?_) ?_
 ·lk
  ·rename_i y;exact⟨fa,t3,p3,rfl,by rw[y];exact ff,Gk,.refl _ _⟩
  rename_i y;refine iS ⟨(0,0,0),fun fx dp Rv=>⟨fx,_,dp,rfl,by rw[aI,y];rfl,(av _ _ (neN Gk Rv)).trans Gk,(aF.refl _ _).ja Rv⟩⟩
 rintro _ iZ ⟨fx,tt,dp,rfl,g1,g2,o5⟩:_
 refine Hg g2 g1 ?_
 rw[NU hR hF.nd hf]
 replace f1:=o5.at f1 id
 replace fs:=o5.at fs id
 replace fo:=o5.at fo id
 replace fn:=o5.at fn id
 replace ff:=o5.at ff id
 replace D4:=D4.only o5 id
 replace B4:=B4.only o5 id
 replace o4:=o4.trans (o5.mono fun _ y=>y.elim)
 clear g1 g2 Gk o5
 refine JU (Br.VH rfl (yX ?_))
 have BV:=yG q2 (.inr (.inl rfl))
 have xN:=yG z2 (.inr (.inr rfl))
 clear yG
 have nl:∀y,1≤y→(y<10∨(y≠q2∧y≠z2))→¬(y=q2∨y=z2∨y=0):=fun y h1 h2 z=>by(have g1:=BV.2.2.1;have g2:=xN.2.2.1;revert z h1 h2 g1 g2;room)
 refine sr (fun bt σ'=>bt=((((((fq ["box","world","side","k","old","new","final","flushes"] [.ref a,.ref wa,.ref sa,.int k,.ref oa,.ref na,.ref fa,.int fl]).put "late" (.ref d)).put "some" (.fl (cs.map .int))).put "disk" (.ref d')).put "is_new" (.bool (fA fl cs))).put "is_headed" (.bool (bM fl cs)))∧
  ∃c' j',je σ' wa W∧σ' sa=some (ts,.list [.ref c',.ref j'])∧σ' oa=some (t1,.dict (aU mo) p1)∧σ' na=some (t2,.dict (aU mn) p2)∧σ' fa=some (t3,.dict (aU mf) p3)∧cb σ' a (kk+(D.bx.length:Nat))∧aS o2 q2 (W.room k) c' d' (2*w) A σ' 0 (fun _=>none)∧eU j' c' z2 σ' W.J∧aF P σ σ') ?_ ?_
 ·lk;refine aT (BN (P:=fun y=>y=q2∨y=z2∨y=0) (t:=(0,0,0)) pr ⟨K,f1⟩ D4 bF O ⟨%[|BV],by exists xN⟩ Ru (.inl rfl) (.inr (.inl rfl)) (.inr (.inr rfl)) ⟨by show 0≠o2;(exists iG),by show 0≠q2;(exists BV),by show 0≠z2;exists xN⟩ BU t9 hk fun x c' j' i2 o6 C6 J6 Rw=>?_) rfl;obtain⟨-,-,zq,Rx,WN,WO,WQ⟩:=BV;obtain⟨-,-,zz,Ry,WR,WS,WT⟩:=xN;obtain⟨-,-,zo,WU,-,-,-⟩:=iG;obtain⟨WV,Rz,t12,WW,t14,WX,t16,WY,WZ,Xa,Xb,Xd⟩:=kU;have g1:=o6.at f1 (nl 3 %[|0] (.inl %[|0]));have gs:=o6.at fs (nl _ (Nat.pos_of_ne_zero Rz) (.inr ⟨Rx.symm,Ry.symm⟩));have go:=o6.at fo (nl _ (Nat.pos_of_ne_zero WW) (.inr ⟨WN.symm,WR.symm⟩));have gn:=o6.at fn (nl _ (Nat.pos_of_ne_zero WX) (.inr ⟨WO.symm,WS.symm⟩));have gf:=o6.at ff (nl _ (Nat.pos_of_ne_zero WY) (.inr ⟨WQ.symm,WT.symm⟩));have B6:=B4.only o6 (nl 1 %[|0] (.inl %[|0]));have o7:aF P σ i2:=o4.trans (o6.mono fun y h=>by rcases h with e|e|e<;>(rw[e];assumption));clear f1 fs fo fn ff B4 D4 o6 o4 nl hR;have n1:=iF Rw gs (fun y=>Rz y.symm);refine yA (vs:=[.ref c',.ref j']) (.inl (.inr ⟨_,_,rfl,Rw⟩)) rfl rfl (by f_are) ?_;lk;rw[tB];have ot:aF (fun y=>y=ts.1) i2 (upd i2 sa (ts,.list [.ref c',.ref j'])):=by refine(aF.refl _ i2).upd gs ?_ ?_<;>rfl
  exact⟨rfl,c',j',⟨K,ot.at g1 (fun y=>WZ y.symm)⟩,aI ..,ot.at go (fun y=>Xa y.symm),ot.at gn (fun y=>Xb y.symm),ot.at gf (fun y=>Xd y.symm),B6.upd gs WV,C6.only ot WU Rx,J6.only ot Ry,o7.upd gs mI mI⟩
 rintro _ sI ⟨rfl,c',j',W7,RA,RB,RC,RD,B7,C7,J7,o7⟩:_
 clear f1 fs fo fn ff B4 D4 o4 nl
 have fH:¬(z2=o2∨z2=q2∨z2=0):=fun y=>y.elim O.zo fun y=>y.elim O.zq fun y=>by have:=xN.2.2.1;nomatch y,this
 have nP:∀y,y≠o2→y≠q2→y≠0→¬(y=o2∨y=q2∨y=0):=fun y h1 h2 h3 h=>h.elim h1 fun h=>h.elim h2 h3
 have w1:=PLift.up kU
 have w2:=PLift.up BV
 have w3:=PLift.up xN
 have w4:=PLift.up iG
 have w5:=PLift.up bF
 clear kU BV xN iG bF
 have dY:=hR.perm.length_eq
 rw[bB]at dY
 have hM:0<W.room k:=by
  unfold Wd.room;have q0:=K.NH;have q1:=K.NI;have q2:=K.p0;split<;>exists q0,q1,q2
 have jJ:W.J.af=W.af∧W.J.size=W.log∧W.J.bb=W.bb∧W.J.aK=0∧W.J.ab=[]:=⟨rfl,rfl,rfl,rfl,rfl⟩
 have hi0:(0:Int)≤(if bM fl cs=true then 1 else 0):=by split<;>decide
 have Mn:(if bM fl cs=true then(1:Int)else 0)≤1:=by split<;>decide
 have pe:4*(((if bM fl cs then ab else[]).length:Int)+1)≤A.size:=by rw[t9];have:=nS.2.2;exists k5,this
 have pend:v8 W.J A (if bM fl cs then ab else[]):=by
  refine⟨nS.1,fun n hn=>?_,nS.2.2,pe,by rw[t9];exact K.s4,by rw[t9];(exists k2,k5),k3,by show W.af<_;rw[BU];(exists k1,k4,k5,k6),by show A.bk W.af=_;rw[t9];exact hR.head⟩
  have Gl:n∈ab:=by
   cases q:bM fl cs with
   |true=>rw[q]at hn;exact hn
   |false=>nomatch q,hn
  obtain⟨x,hx,rfl⟩:=gB (hR.perm.mem_iff.mp Gl);obtain⟨y1,y2,y3⟩:=eX.mp (hF.e x hx).1;exact⟨y1,by rw[BU];exact y2,%[k2,k4,k5,k6|y2],y3⟩
 obtain⟨jl,jh,Xf,jll,jnd,Xg,Xh,je1,je2,je3,je4⟩:=id J7
 lk
 refine aT (Am (P:=fun y=>y=o2∨y=q2∨y=0) (au:=fin) pr C7 J7 O (.inr (.inr rfl)) (.inl rfl) (.inr (.inl rfl)) rfl rfl ?_ (by rw[← hA];rfl) (by rw[← hA];rfl) (by rw[← hA];rfl) hM pend ?_ ?_ (fun i n hn=>?_) ?_ fun D8 xR w8 Xi jv o8 C8=>?_) rfl
 ·have:=nS.2.2;exists hw,k2,this
 ·show _≤W.log;have:=nS.2.2;exists k5,this
 ·show W.af+W.log≤_;rw[BU];exists k1,k4,k6
 ·cases q:bM fl cs with
  |true=>rw[q]at hn;exact hR.log q i n hn
  |false=>nomatch q,hn
 ·have:=nS.2.2;exists k2,this
 have S8:NB A D8∧(if bM fl cs then D8.writes=mf.length+1 else D8.writes=0):=by
  have RG:A.writes=0:=by rw[← hA];rfl
  cases q:bM fl cs with
  |true =>
   rw[q]at jv;simp only[if_true]at jv;have bF:ab≠[]:=fun y=>by rw[y]at dY;simp at dY;exists mJ,dY
   rw[aY bF]at jv;refine⟨eK _ jv,?_⟩;rw[bh rfl,Bk _ jv,RG,gq,KV];show 0+((ab.length:Int)+(0+1))=_;exists dY
  |false =>
   rw[q]at jv;simp only[qf,if_false,if_true]at jv;rw[aY %[|0],jv];exact⟨⟨rfl,rfl,rfl,rfl,rfl⟩,RG⟩
 have J8:=J7.only o8 fH
 have f8:=o8.at RD (nP _ (fun y=>w4.down.2.2.2.2.2.2 y.symm) (fun y=>w2.down.2.2.2.2.2.2 y.symm) w1.down.2.2.2.2.2.2.2.1)
 have Bo:(if bM fl cs then ab else[]).length<64:=by have:=nS.2.2;exists k2,this
 lk
 refine tP (ns:=if bM fl cs then ab else[]) (.inl (.inl rfl)) Bo (bu ?_)
 lk
 refine gE (Q:=fun v σ'=>v=.fl (i8 (hH (if bM fl cs then ab else[])))∧xR=σ') (lj ?_) ?_
 ·lk
  ·rename_i y;refine sj f8 (by unfold aU;rw[bB];exists cU,k2) (bu ⟨?_,rfl⟩);rw[y,bh rfl,xT hR.perm];unfold aU;rw[ey];rfl
  rename_i y;refine bu ⟨?_,rfl⟩;rw[y,aY %[|0],show hH []=[]by unfold hH;simp];rfl
 rintro _ _ ⟨rfl,rfl⟩:_
 refine lL (.inl (.inl rfl)) (.inl (.inl rfl)) (qv (hH (if bM fl cs then ab else[])) (hH (if bM fl cs then ab else[]))) ?_
 rw[show(hH (if bM fl cs then ab else[])==hH (if bM fl cs then ab else[]))=true by simp]
 obtain⟨Zw,dk8,dl8,du8,Zx,Zy,d81,d82,d83,d84⟩:=id C8.2.2.2.1
 lk
 have RH:=o8.at RA (nP _ (fun y=>w4.down.2.2.2.1 y.symm) (fun y=>w2.down.2.2.2.1 y.symm) w1.down.2.1)
 have W8:=o8.at W7.2 (nP 3 (fun y=>by have:=w4.down.2.2.1;exists y,this) (fun y=>by have:=w2.down.2.2.1;exists y,this) %[|0])
 have B8:=B7.only o8 (nP 1 (fun y=>by have:=w4.down.2.2.1;exists y,this) (fun y=>by have:=w2.down.2.2.1;exists y,this) %[|0])
 have RI:=o8.at RB (nP _ (fun y=>w4.down.2.2.2.2.1 y.symm) (fun y=>w2.down.2.2.2.2.1 y.symm) w1.down.2.2.2.1)
 have RJ:=o8.at RC (nP _ (fun y=>w4.down.2.2.2.2.2.1 y.symm) (fun y=>w2.down.2.2.2.2.2.1 y.symm) w1.down.2.2.2.2.2.1)
 obtain⟨kl,kh,kdx,kll,knd,kes,kdp,ke1,ke2,ke3,ke4⟩:=id J8
 refine oC f8 (by unfold aU;rw[bB];exists cU,k2) ?_
 lk
 ·rename_i y;exfalso;have h2:=S8.2;have oJ:(aU mf).length=mf.length:=by unfold aU;rw[bB]
  rw[oJ]at y;cases q:bM fl cs with
  |true=>rw[q,bh rfl]at h2;rw[q,h2]at y;simp at y
  |false=>rw[q,aY %[|0]]at h2;rw[q,h2]at y;simp at y
 have F8:D8.bk W.af=br [] W.size∧(∀n∈W.data,D8.bk n=if fA fl cs then nw n else old n)∧D8.bx=[]:=by
  have Xj:A.bx=[]:=by rw[← hA];rfl
  have nF:=hR.data;have N1:=hR.head;cases q:bM fl cs with
  |true =>
   rw[q]at jv nF;simp only[if_true,true_and]at jv nF;have bF:ab≠[]:=fun y=>by rw[y]at dY;simp at dY;exists mJ,dY
   rw[aY bF]at jv;refine⟨?_,fun n hn=>?_,?_⟩
   ·rw[iK _ _ jv,dU];show(if W.af=W.af then br [] A.size else _)=_;rw[bh rfl,t9]
   ·rw[← nF n hn,iK _ _ jv,dU];obtain⟨y1,y2,y3⟩:=eX.mp hn;have iV:n≠W.af:=fun y=>y3 ⟨%[|y],by exists k1,k5,y⟩
    rw[jd (ops:=[.wr W.J.af (br [] A.size),.fl]) (fun k b y=>by
     rcases eb y with y|y
     ·cases y;exact iV
     simp at y),dU]
    show c9 n (cQ fin ab) (A.bk n)=_;by_cases z:n∈ab
    ·rw[bh z,oM z]
    rw[aY z,jd (fun k b y=>by
     obtain⟨m,hm,e⟩:=gB y;cases e;exact fun e=>z (e▸hm))]
   exact Gi jv
  |false =>
   rw[q]at jv nF N1;simp only[qf,if_false,if_true,false_and]at jv nF N1;rw[jv];exact⟨N1,nF,Xj⟩
 have Ut:D8.mK:=by
  have sA:A.mK:=by rw[← hA];exact aE.mK.jN D cs
  by_cases hz:(if bM fl cs then ab else[])=[]
  ·rw[bh hz]at jv;rw[jv];exact sA
  rw[aY hz]at jv;exact uG _ sA jv
 obtain⟨S8,-⟩:=S8
 have b8:D8.aQ=W.aQ:=S8.aQ.trans BU
 have z8:D8.size=W.size:=S8.size.trans t9
 have N2:D8.cj=false:=S8.cj.trans (by rw[← hA];rfl)
 have l8:D8.last=none:=S8.last.trans (by rw[← hA];rfl)
 have RK:D8.bl=none:=S8.bl.trans (by rw[← hA];rfl)
 have Jr:v8 W.J D8 []:=⟨nodup_nil,fun n hn=>(by cases hn),by show((0:Nat):Int)≤W.bb;(exists k1),by rw[z8];show 4*(((0:Nat):Int)+1)≤_;(exists t9,pe),by rw[z8];exact K.s4,by rw[z8];(exists k2,k5),k3,by show W.af<_;rw[b8];(exists k1,k4,k5,k6),by show D8.bk W.af=_;rw[z8];exact F8.1⟩
 have HZ:w8≤2*w+32:=by have:=nS.2.2;exists k2,this,Xi
 refine aT (Am (P:=fun y=>y=o2∨y=q2∨y=0) (au:=fin) (ab:=[]) pr C8 J8 O (.inr (.inr rfl)) (.inl rfl) (.inr (.inl rfl)) rfl rfl (by show w8+3*0+20≤7000;exists hw,HZ) N2 l8 RK hM Jr (by show((0:Nat):Int)+1≤W.log;exists k1,k5) (by show W.af+W.log≤_;rw[b8];exists k1,k4,k6) (fun i n hn=>(by simp at hn)) %[|0] fun D9 NT w9 Js Jt o9 C9=>?_) rfl
 rw[bh rfl]at Jt
 replace Jt:=Jt.symm
 subst Jt
 have Js:w9≤w8+20:=Js
 have J9:=J8.only o9 fH
 have Xk:=o9.at RH (nP _ (fun y=>w4.down.2.2.2.1 y.symm) (fun y=>w2.down.2.2.2.1 y.symm) w1.down.2.1)
 have W9:=o9.at W8 (nP 3 (fun y=>by have:=w4.down.2.2.1;exists y,this) (fun y=>by have:=w2.down.2.2.1;exists y,this) %[|0])
 have B9:=B8.only o9 (nP 1 (fun y=>by have:=w4.down.2.2.1;exists y,this) (fun y=>by have:=w2.down.2.2.1;exists y,this) %[|0])
 have Xl:=o9.at RI (nP _ (fun y=>w4.down.2.2.2.2.1 y.symm) (fun y=>w2.down.2.2.2.2.1 y.symm) w1.down.2.2.2.1)
 have Xm:=o9.at RJ (nP _ (fun y=>w4.down.2.2.2.2.2.1 y.symm) (fun y=>w2.down.2.2.2.2.2.1 y.symm) w1.down.2.2.2.2.2.1)
 have Xn:aF P σ NT:=(o7.trans ((o8.trans o9).mono fun y h=>by rcases h with e|e|e<;>(rw[e];assumption)))
 clear RH W8 B8 RI RJ f8 RA RB RC RD o7 o8 o9 C7 C8 J7 J8 pend Jr jv
 lk
 refine bu (fX (.inl (.inl rfl)) ?_)
 lk
 refine gE (Q:=fun v σ'=>∃va tt dp mm,v=.ref va∧σ' va=some (tt,.dict (aU mm) dp)∧(∀n∈W.data,cq mm n=some (D8.bk n))∧NT=σ') (lj ?_) ?_
 ·lk
  ·rename_i y;exact⟨na,t2,p2,mn,rfl,Xm,fun n nu=>by rw[F8.2.1 n nu,y];exact hn n nu,rfl⟩
  rename_i y;exact⟨oa,t1,p1,mo,rfl,Xl,fun n nu=>by rw[F8.2.1 n nu,y];exact ho n nu,rfl⟩
 rintro _ _ ⟨va,tt,dp,mm,rfl,gv,gm,rfl⟩:_
 have Ak:D8.bk W.af=List.replicate W.size.toNat 0:=by
  rw[F8.1];unfold br;have e1:dI ((([]:List Int).length:Int)::[])=List.replicate 4 0:=rfl;rw[e1,List.replicate_append_replicate];congr 1;show 4+(W.size-4*(((0:Nat):Int)+1)).toNat=_
  (have w0:=Ln.fT (W.size-4*(↑0+1));have w1:=Ln.fT (W.size);revert t9 pe w0 w1;room)
 refine aT (Jo pr ⟨K,W9⟩ C9.2.2.2.1 gv N2 C9.2.2.1 %[hw,HZ|Js] b8 z8 gm Ak F8.2.2 ?_) rfl
 lk
 refine lj ?_
 have fin:Q (.str (if fA fl cs then("new" : Str)else("old" : Str))) _:=h (fA fl cs) c' j' d' D8 w9 _ %[HZ|Js] Xn (B9.mono (by have:=ok.m;exists hw,hm)) Xk C9 J9 b8 z8 N2 l8 RK F8.2.2 Ut Ak F8.2.1
 lk
 ·rename_i y;rw[y]at fin;exact fin
 rename_i y
 rw[y]at fin;exact fin
end
open JL
noncomputable def lg(hd:Int)(aA:List Int)(ad:Int→Addr):List (Int×LV):=if hd=1 then aA.map fun n=>(n,LV.ref (ad n))else[]
theorem wY:∀ {hd:Int} {aA:List Int} {ad:Int→Addr} {n:Int},c6 (lg hd aA ad) n=if hd=1∧n∈aA then some (.ref (ad n))else none:=by
 rintro hd aA ad:(_)
 rintro n:(_)
 unfold lg
 by_cases h:hd=1
 ·rw[bh h];unfold c6
  induction aA with
  |nil=>simp
  |cons m r ih =>
   rw[ew,List.find?_cons];by_cases q:m=n
   ·subst q;simp[h]
   have:decide (((m,LV.ref (ad m)):Int×LV).1=n)=false:=jx q;rw[this];simp only[h,true_and]at ih ⊢;have:(n∈m::r)=(n∈r):=by simp;exact fun e=>absurd e.symm q
   simp only[this];exact ih
 rw[aY h,aY fun z=>h z.1];rfl
theorem KW:∀ {aA:List Int} {ad:Int→Addr} {n:Int} {a:Addr} (ha:n∈aA→a=ad n),f9 (lg 1 aA ad) n (.ref a)=lg 1 (if n∈aA then aA else aA++[n]) (fun k=>if k=n then a else ad k):=by
 rintro aA ad n:(_)
 rintro a:(_)
 w_up
 unfold lg f9
 rw[bh rfl,bh rfl]
 have k:((aA.map fun n=>(n,LV.ref (ad n))).any fun e=>decide (e.1=n))=decide (n∈aA):=by
  rw[List.any_map]
  induction aA with
  |nil=>rfl
  |cons m r ih =>
   rw[any_cons,ih fun h=>ha (gb _ h)];by_cases q:m=n
   ·subst q;simp
   simp[q];exact fun e=>absurd e.symm q
 rw[k]
 by_cases h:n∈aA
 ·rw[bh h,bh (ia h),ey];refine map_congr_left fun m _=>?_;show(if m=n then(m,LV.ref a)else(m,LV.ref (ad m)))=(m,LV.ref (if m=n then a else ad m));split<;>rfl
 rw[aY h,aY (by simpa using h),bZ]
 congr 1
 ·refine map_congr_left fun m hm=>?_;have:m≠n:=fun e=>h (e▸hm);show(m,LV.ref (ad m))=(m,LV.ref (if m=n then a else ad m));rw[aY this]
 show[(n,LV.ref a)]=[(n,LV.ref (if n=n then a else ad n))]
 rw[bh rfl]
structure lZ(W:Wd)(D:aE)(hd:Int)(s:TS)(ad:Int→Addr)(aJ:Act):Prop where
 a1:∀n∈s.aA,aJ n=some ⟨ad n,s.now n,hd,1⟩
 a0:∀n,n∉s.aA→aJ n=none
 out:∀n∈W.data,n∉s.aA→s.now n=D.bk n
 sub:∀n∈s.aA,n∈W.data
 len:(s.aA.length:Int)≤W.bb
 c0:0≤s.aK
section
variable {W:Wd}{D:aE}{hd:Int}{s:TS}{ad:Int→Addr}{aJ H0:Act}
theorem lZ.cont(h:lZ W D hd s ad aJ)(hn:n∈W.data):cont aJ D n=s.now n:=by
 unfold Lake.cont
 by_cases q:n∈s.aA
 ·rw[h.a1 n q];rfl
 rw[h.a0 n q];exact(h.out n hn q).symm
theorem lZ.put(h:lZ W D hd s ad aJ){p:Int}{c:bc}(ok:(cO.put n p c).Ok W s)(h1:H0 n=some ⟨a,d6 (s.now n) c p.toNat,hd,1⟩)(h2:∀k,k≠n→H0 k=aJ k) :
  lZ W D hd (cO.go s (.put n p c)) (fun k=>if k=n then a else ad k) H0:=by
 obtain⟨k1,k2,k3,k4,k5⟩:=ok
 have Av:∀k,(cO.go s (.put n p c)).now k=if k=n then d6 (s.now n) c p.toNat else s.now k:=fun _=>rfl
 have pW:(cO.go s (.put n p c)).aA=if n∈s.aA then s.aA else s.aA++[n]:=rfl
 have hm:∀k,k∈(cO.go s (.put n p c)).aA↔k∈s.aA∨k=n:=fun k=>by
  rw[pW];by_cases q:n∈s.aA
  ·rw[bh q];exact⟨.inl,fun z=>z.elim id fun e=>e▸q⟩
  rw[aY q,mem_append];simp
 refine⟨fun k hk=>?_,fun k hk=>?_,fun k hk yP=>?_,fun k hk=>?_,?_,h.c0⟩
 ·rw[Av];by_cases q:k=n
  ·rw[bh q,bh q,q];exact h1
  rw[aY q,aY q,h2 k q];exact h.a1 k (((hm k).mp hk).resolve_right q)
 ·have q:k≠n:=fun e=>hk ((hm k).mpr (.inr e));rw[h2 k q];exact h.a0 k fun z=>hk ((hm k).mpr (.inl z))
 ·have q:k≠n:=fun e=>yP ((hm k).mpr (.inr e));rw[Av,aY q];exact h.out k hk fun z=>yP ((hm k).mpr (.inl z))
 ·rcases(hm k).mp hk with z|rfl
  ·exact h.sub k z
  exact k2
 rw[pW]
 split
 ·exact h.len
 rename_i q
 have:=k5 q
 rw[dv,List.length_singleton];exists this
theorem lZ.aK(h:lZ W D hd s ad aJ){c':Int}(hc:0≤c'):lZ W D hd {s with aK:=c'} ad aJ:=⟨h.a1,h.a0,h.out,h.sub,h.len,hc⟩
end
structure sT(o q z:Nat)(c d j ha:Addr)(ay:Int)(J0:AJ)(w:Nat)(D:aE)(hd:Int)(aJ:Act)(ad:Int→Addr)(s:TS)(σ:St):Prop where
 C:aS o q ay c d w D σ s.aA.length aJ
 J:eU j c z σ {J0 with ab:=s.aA,aK:=s.aK}
 H:∃dp,σ ha=some ((6,0,0),.dict (lg hd s.aA ad) dp)
 T:σ 622=some ((7,0,0),.table "_law_done.<locals>.<lambda>")
section
variable {σ σ':St}{o q z:Nat}{c d j ha:Addr}{ay:Int}{D:aE}{w:Nat}{J0:AJ}{hd:Int}{s:TS}{ad:Int→Addr}{aJ:Act}
theorem sT.N3(h:sT o q z c d j ha ay J0 w D hd aJ ad s σ)(k:aF (fun y=>y=z) σ σ')(O:Own o q z)(ho:10≤o∧10≤q∧10≤z){c':Int}(hJ:eU j c z σ' {J0 with ab:=s.aA,aK:=c'}):sT o q z c d j ha ay J0 w D hd aJ ad {s with aK:=c'} σ':=
 ⟨h.C.only k (fun e=>O.zo e.symm) (fun e=>O.zq e.symm),hJ,let⟨dp,e⟩:=h.H;⟨dp,k.at e (by show ¬6=z;exists ho)⟩,k.at h.T (by show ¬7=z;exists ho)⟩
theorem sT.Uu(h:sT o q z c d j ha ay J0 w D hd aJ ad s σ)(k:aF (fun y=>y=q) σ σ')(O:Own o q z)(ho:10≤o∧10≤q∧10≤z)(hC:aS o q ay c d w D σ' s.aA.length aJ):sT o q z c d j ha ay J0 w D hd aJ ad s σ':=
 ⟨hC,h.J.only k O.zq,let⟨dp,e⟩:=h.H;⟨dp,k.at e (by show ¬6=q;exists ho)⟩,k.at h.T (by show ¬7=q;exists ho)⟩
theorem KY:cO.go s (.pZ false)=s:=by
 show {s with aK:=s.aK+0}=s
 rw[oS]
end
section
variable {G:Gd}{σ:St}{Q:LV→St→Prop}{ep:EP}{o q z:Nat}{c d j:Addr}{ay:Int}{D:aE}{w:Nat}{P:Nat→Prop}{J0:AJ}{W:Wd}
theorem Qk{ds:List cO}{s':TS}{hd:Int}{old:Int→bc}(pr:Pr G)(hb:qA G)(hT:σ 622=some ((7,0,0),.table "_law_done.<locals>.<lambda>"))(hC:aS o q ay c d w D σ 0 (fun _=>none))(hJ:eU j c z σ J0)(O:Own o q z)(ho:10≤o∧10≤q∧10≤z)(K:W.Ok)(eV:P q)(jP:P z)(hw:w≤8000)(AB:D.cj=false)
 (hm:W.bb<ay)(vN:D.aQ=W.aQ)(hsz:D.size=W.size)(j1:J0.ab=[])(j2:J0.aK=0)(j3:J0.ay=W.bb)(j4:J0.cK=W.cK)(j5:J0.af=W.af)(j6:J0.size=W.log)(hh:hd=0∨hd=1)
 (run:jH W ⟨old,[],0⟩ ds s')(kK:∀n∈W.data,D.bk n=old n)(dX:ds.length≤1000)(fB:s'.aA.Nodup)
 (h:∀σ' aJ ad,aF P σ σ'→aS o q ay c d w D σ' s'.aA.length aJ→eU j c z σ' {J0 with ab:=s'.aA,aK:=s'.aK}→σ' 622=some ((7,0,0),.table "_law_done.<locals>.<lambda>")→lZ W D 0 s' ad aJ→Q (.bool true) σ') :
  CallT 6 b0 (.ref 627) G σ Q [.ref c,.ref j,.tup [.int hd,.fl (ds.map dC)]]:=by
 law_purse 0 =>
 revert pr hb hT hC hJ O ho K eV jP hw AB hm vN hsz j1 j2 j3 j4 j5 j6 hh run kK dX fB h
 revert G σ Q o q z c d j ay D w P J0 W ds s' hd old
 rintro G σ Q o q z c d j ay D w P J0 W ds:(_)
 rintro s' hd old:(_)
 intro pr hb hT hC hJ O ho K eV jP hw AB hm vN hsz j1 j2 j3 j4 j5 j6 hh run kK dX fB h
 have k1:=K.p0
 have k2:=K.p1
 wtm_at "Zn b0 c|cache journal telling"
 rintro cx aa L:(_)
 intro F1 F2 F3 F4 F5 F6 F7 F8
 lk
 refine iS ⟨(6,0,0),?_⟩
 rintro ha dp:(_)
 intro Gm
 lk
 refine Dy (fun aC ae=>aC "cache"=some (.ref c)∧aC "journal"=some (.ref j)∧aC "is_held"=some (.int hd)∧aC "deeds"=some (.fl (ds.map dC))∧aC "held"=some (.ref ha)∧aF P σ ae∧sT o q z c d j ha ay J0 w D hd (fun _=>none) (fun _=>0) ⟨old,[],0⟩ ae) ?_ ?_
 ·refine⟨rfl,rfl,rfl,rfl,rfl,(aF.refl P σ).ja Gm,?_,?_,⟨dp,?_⟩,?_⟩
  ·exact hC.only ((aF.refl (fun _=>False) σ).ja Gm) id id
  ·have:({J0 with ab:=[],aK:=0}:AJ)=J0:=by cases J0;simp only at j1 j2;subst j1 j2;rfl
   rw[this];exact hJ.only ((aF.refl (fun _=>False) σ).ja Gm) id
  ·have:lg hd [] (fun _=>0)=[]:=by unfold lg;split<;>rfl
   rw[this];exact aI ..
  exact(av _ _ (neN hT Gm)).trans hT
 rintro qq Ga ⟨q1,q2,q3,q4,q5,o0,T0⟩:_
 refine gW F2 (by intro _;with_unfolding_all rfl) (tR rfl ?_)
 lk
 refine px (gV (fun i aC ae=>aC "cache"=some (.ref c)∧aC "journal"=some (.ref j)∧aC "is_held"=some (.int hd)∧aC "held"=some (.ref ha)∧aF P σ ae∧∃s ad aJ,jH W s (ds.drop i) s'∧sT o q z c d j ha ay J0 w D hd aJ ad s ae∧lZ W D hd s ad aJ) ?_ ⟨?_,?_⟩)
 ·exact⟨q1,q2,q3,q5,o0,_,_,_,run,T0,⟨fun n hn=>(by cases hn),fun _ _=>rfl,fun n hn _=>(kK n hn).symm,fun n hn=>(by cases hn),by show((0:Nat):Int)≤_;(exists k1),fh _⟩⟩
 ·clear q1 q2 q3 q4 q5 o0 T0;rintro its i v aC ae:(_);rintro hv - ⟨q1,q2,q3,q4,o0,s,ad,aJ,r0,T0,L0⟩:_;obtain⟨x,hx,rfl⟩:=dj hv;rw[mY (List.getElem?_eq_some_iff.mp hx).1,(List.getElem?_eq_some_iff.mp hx).2]at r0;obtain⟨ok,r1⟩:=r0;have dF:nK ae:=trivial;obtain⟨hl,he,dx,l,nd,es,RL,e1,e2,e3,e4⟩:=id T0.J;obtain⟨Ju,rc,bn,m1,m2,m3,ec⟩:=T0.C.cell;have kY:∀y,y=z→P y:=fun y e=>e▸jP;have Fq:∀y,y=q→P y:=fun y e=>e▸eV;cases x with
  |pZ b =>
   refine vK rfl rfl (by f_are) ?_;lk;refine z7 (m:=3) (f:=613) (C:=76) (exn:="NoRoom") (dn:="deed") (jy rfl) F1 F5 rfl F7 (by rw[pr.K];k_in) (by rw[F8];rfl) T0.T hb (by f_are) %[|0] %[|0] %[|0] (fun pm cd ct=>by with_unfolding_all rfl) %[|0] (pr.glob %[|0]).1 (pr.glob (x:="_law_is_let") %[|0]).2 (by rw[pr.K];rfl) rfl (by rw[pr.K];k_in) (fun vs hl=>bind1 hl fun _=>rfl) %[|0] %[|0] %[|0] (pr.glob %[|0]).1 (qH pr).own (qH pr).tup %[|0] %[|0] (fun Xo Uv E1 E2 E3 E4 E5=>?_);lk;have Xp:b=decide ((s.aA.length:Int)+(s.aK+1)*W.cK≤W.bb):=ok;have lU:AJ.room {J0 with ab:=s.aA,aK:=s.aK}=b:=by rw[Xp];unfold AJ.room;dsimp only;rw[j3,j4]
   refine fu (NA (P:=fun y=>y=z) pr T0.J rfl (fun y dP o3 J3=>?_) fun y=>⟨rfl,?_⟩) rfl
   ·rw[lU]at y;subst y;lk;exact⟨trivial,by k_ne,by k_ne,by k_ne,by k_ne,o0.trans (o3.mono kY),_,ad,aJ,r1,T0.N3 o3 O ho J3,L0.aK (by have:=L0.c0;show 0≤s.aK+1;exists this)⟩
   rw[lU]at y;subst y;lk;rw[KY]at r1;exact⟨trivial,by k_ne,by k_ne,by k_ne,by k_ne,o0,_,ad,aJ,r1,T0,L0⟩
  |put n p b =>
   obtain⟨tW,Gn,Xq,Xs,N4⟩:=id ok;obtain⟨n0,n1,n2⟩:=eX.mp Gn;have hlen:=L0.len;have BW:¬6=z∧¬6=q∧¬7=z∧¬7=q:=by exists ho
   obtain⟨RM,eh⟩:=T0.H;refine vK rfl rfl (by f_are) ?_;lk;refine gE (Q:=fun v σ'=>∃a qO p1,v=.ref a∧qO n=some ⟨a,s.now n,1,p1⟩∧(n∈s.aA→p1=1∧a=ad n)∧(n∉s.aA→p1=0)∧(∀k,k≠n→qO k=aJ k)∧aF (fun y=>y=q) ae σ'∧aS o q ay c d w D σ' (if n∈s.aA then s.aA.length else s.aA.length+1) qO) (lj ?_) ?_
   ·lk;refine zt eh ?_;rw[wY]
    have Uw:∀σ' a b hh p cnt',(aJ n=some ⟨a,b,hh,p⟩∧cnt'=s.aA.length∨aJ n=none∧b=D.bk n∧hh=0∧p=0∧cnt'=s.aA.length+1)→¬(hd=1∧n∈s.aA)→aF (fun y=>y=q) ae σ'→aS o q ay c d w D σ' cnt' (gj aJ n (some ⟨a,b,hh+1,p⟩))→
      ∃H3 qO p1,LV.ref a=.ref H3∧qO n=some ⟨H3,s.now n,1,p1⟩∧(n∈s.aA→p1=1∧H3=ad n)∧(n∉s.aA→p1=0)∧(∀k,k≠n→qO k=aJ k)∧aF (fun y=>y=q) ae σ'∧aS o q ay c d w D σ' (if n∈s.aA then s.aA.length else s.aA.length+1) qO:=fun σ' a b Wo p cnt' y yn o3 C3=>by
     by_cases hn:n∈s.aA
     ·have h0:hd=0:=by rcases hh with h|h;exact h;exact absurd ⟨h,hn⟩ yn
      rcases y with hK|hK
      ·obtain⟨y1,y2⟩:=hK;rw[L0.a1 n hn]at y1;injection y1 with y1
       injection y1 with y3 y4 y5 y6
       subst y3 y4 y6 y2;rw[← y5,h0]at C3;exact⟨_,_,_,rfl,bh rfl,fun _=>⟨rfl,rfl⟩,fun z=>absurd hn z,fun k hk=>aY hk,o3,by rw[bh hn];exact C3⟩
      obtain⟨y1,-⟩:=hK;nomatch(L0.a1 n hn),y1
     rcases y with hK|hK
     ·obtain⟨y1,-⟩:=hK;nomatch(L0.a0 n hn),y1
     obtain⟨-,y2,y3,y4,y5⟩:=hK;rw[y2,y3,y4]at C3;exact⟨_,_,_,rfl,by rw[L0.out n Gn hn];exact bh rfl,fun z=>absurd z hn,fun _=>rfl,fun k hk=>aY hk,o3,by rw[aY hn,← y5];exact C3⟩
    by_cases hx:hd=1∧n∈s.aA
    ·rw[bh hx];lk;refine jq (v:=.ref (ad n)) eh (by rw[wY,bh hx]) ?_;exact⟨_,_,_,rfl,by rw[L0.a1 n hx.2,hx.1],fun _=>⟨rfl,rfl⟩,fun z=>absurd hx.2 z,fun _ _=>rfl,.refl _ _,by rw[bh hx.2];exact T0.C⟩
    rw[aY hx];lk;refine aT (DC (P:=fun y=>y=q) pr T0.C rfl hw AB n0 %[vN|n1] (fun _=>by exists hm,hlen) fun dP a b hh p cnt' y1 y2 o3 C3=>Uw dP a b hh p cnt' y1 hx o3 C3) rfl
   rintro _ dP ⟨a,qO,p1,rfl,N5,N6,bR,Jv,o3,C3⟩:_;obtain⟨Xu,ba,B3,-⟩:=C3.buf N5;have Xv:=B3.a;have RO:=o3.at e1 O.zq;lk;refine aT (PW (P:=fun y=>y=q) pr C3 rfl N5 Xq %[hsz|Xs] fun dG o4 C4=>?_) rfl;have J4:=(T0.J.only o3 O.zq).only o4 O.zq;have N7:=o4.at RO O.zq;refine sr (fun bt σ'=>bt "cache"=some (.ref c)∧bt "journal"=some (.ref j)∧bt "is_held"=some (.int hd)∧bt "held"=some (.ref ha)∧bt "way"=some (.int 1)∧bt "number"=some (.int n)∧bt "octets"=some (.bX b)∧bt "buffer"=some (.ref a)∧∃DL,aF (fun y=>y=q∨y=z) ae σ'∧aS o q ay c d w D σ' (cO.go s (.put n p b)).aA.length DL∧eU j c z σ' {J0 with ab:=(cO.go s (.put n p b)).aA,aK:=s.aK}∧DL n=some ⟨a,d6 (s.now n) b p.toNat,1,1⟩∧∀k,k≠n→DL k=aJ k) ?_ ?_
   ·have pW:(cO.go s (.put n p b)).aA=if n∈s.aA then s.aA else s.aA++[n]:=rfl;have hu:∀ {v:Option fj} k,k≠n→gj qO n v k=aJ k:=fun {v} k hk=>(aY hk).trans (Jv k hk);have RQ:=(o3.trans o4).mono (P':=fun y=>y=q∨y=z) fun _=>.inl;lk;refine fu (FN (P:=fun y=>y=q∨y=z) pr C4 J4 ⟨O.zo,O.zq⟩ (.inr rfl) (.inl rfl) (bh rfl) (by show(0:Int)<1;decide) tW (by rw[j5,j6];exact n2) (by rw[j3];exists k2) (fun y=>?_) (fun y y2 iZ o5 C5 J5=>?_) fun y y2=>?_) rfl
    ·have hn:n∈s.aA:=contains_iff_mem.mp y;rw[bh hn]at C4;rw[(N6 hn).1]at C4;exact⟨by k_ne,by k_ne,by k_ne,by k_ne,by k_ne,by k_ne,by k_ne,by k_ne,_,RQ,by rw[pW,bh hn];exact C4,by rw[pW,bh hn];exact J4,bh rfl,fun k hk=>hu k hk⟩
    ·have hn:n∉s.aA:=fun hn=>by nomatch(contains_iff_mem.mpr hn),y
     rw[aY hn]at C5;rw[bR hn]at C5;exact⟨by k_ne,by k_ne,by k_ne,by k_ne,by k_ne,by k_ne,by k_ne,by k_ne,_,RQ.trans o5,by rw[pW,aY hn,dv];exact C5,by rw[pW,aY hn];exact J5,bh rfl,fun k hk=>(aY hk).trans (hu k hk)⟩
    have hn:n∉s.aA:=fun hn=>by nomatch(contains_iff_mem.mpr hn),y
    have:=N4 hn;have y2:J0.ay≤(s.aA.length:Int):=y2
    (exfalso;revert j3 this y2;room)
   have Xw:n∈s.aA→a=ad n:=fun y=>(N6 y).2;clear N5 N6 bR Jv o3 C3 B3 Xv RO J4 N7 o4 C4 q1 q2 q3 q4;rintro qr iZ ⟨q1,q2,q3,q4,q5,q6,q7,q8,DL,o5,C5,J5,a5,b5⟩:_;have RR:=o5.at eh (fun y=>y.elim BW.2.1 BW.1);have RS:=o5.at T0.T (fun y=>y.elim BW.2.2.2 BW.2.2.1);obtain⟨Ju,rc,bn,m1,m2,m3,ec⟩:=C5.cell;have Xx:∀y,(y=q∨y=z)→P y:=fun y e=>e.elim (Fq y) (kY y);have o6:=o0.trans (o5.mono Xx);rcases hh with rfl|rfl
   ·lk;refine aT (nQ (P:=fun y=>y=q) pr C5 rfl a5 (by show(0:Int)<1;decide) (fun _ y=>by cases y) fun i2 qK h6 o7 C6=>?_) rfl;have e6:qK=(cO.go s (.put n p b)).aA.length:=qh h6;subst e6;lk;exact⟨trivial,by k_ne,by k_ne,by k_ne,by k_ne,o6.trans (o7.mono Fq),_,_,_,r1,⟨C6,J5.only o7 O.zq,⟨RM,o7.at RR BW.2.1⟩,o7.at RS BW.2.2.2⟩,L0.put ok (bh rfl) fun k hk=>(aY hk).trans (b5 k hk)⟩
   lk
   ·unfold lg;rw[bh rfl,bB];exists k2,hlen
   rename_i Rr;have k6:∀ {x:LO},aF (fun y=>y=6) iZ (upd iZ ha ((6,0,0),x)):=fun {x}=>(aF.refl _ iZ).upd RR rfl rfl;refine⟨trivial,by k_ne,by k_ne,by k_ne,by k_ne,o6.fresh Gm,_,_,_,r1,⟨C5.only k6 %[|ho] %[|ho],J5.only k6 %[|ho],⟨Rr,?_⟩,k6.at RS %[|0]⟩,L0.put ok a5 b5⟩;rw[aI,KW Xw];rfl
  |bk n b =>
   obtain⟨Gn,Xy⟩:=ok;obtain⟨n0,n1,n2⟩:=eX.mp Gn;have hlen:=L0.len;refine vK rfl rfl (by f_are) ?_;lk;refine aT (vX (P:=fun y=>y=q) pr T0.C rfl hw AB n0 %[vN|n1] (fun _=>by exists hm,hlen) fun dP o3 C3=>?_) rfl;rw[L0.cont Gn,← Xy];lk;refine Km ?_;rw[show(b != b)=false from by simp];lk;exact⟨trivial,by k_ne,by k_ne,by k_ne,by k_ne,o0.trans (o3.mono Fq),_,ad,aJ,r1,T0.Uu o3 O ho C3,L0⟩
  |fin =>
   refine vK rfl rfl (by f_are) ?_;lk;refine aT (Qc (P:=fun y=>y=z) pr T0.J rfl ok fun dP o3 J3=>?_) rfl;lk;exact⟨trivial,by k_ne,by k_ne,by k_ne,by k_ne,o0.trans (o3.mono kY),_,ad,aJ,r1,T0.N3 o3 O ho J3,L0.aK (by have:1<s.aK:=ok;show 0≤s.aK-1;exists this)⟩
 clear q1 q2 q3 q4 q5 o0 T0
 rintro aC ae:(_)
 rintro - ⟨q1,q2,q3,q4,o0,s,ad,aJ,r0,T0,L0⟩:_
 rw[bB,List.drop_length]at r0
 have r0:s=s':=r0
 subst r0
 obtain⟨RM,eh⟩:=T0.H
 lk
 refine gW F2 (by intro _;with_unfolding_all rfl) (yz rfl ?_)
 lk
 have DM:(lg hd s.aA ad).map (·.1)=if hd=1 then s.aA else[]:=by
  unfold lg;split
  ·rw[ey];exact List.map_id _
  rfl
 have Ux:((lg hd s.aA ad).map (·.1)).Nodup:=by
  rw[DM];split
  ·exact fB
  exact nodup_nil
 have Xz:∀n,n∈(lg hd s.aA ad).map (·.1)→hd=1∧n∈s.aA:=fun n hn=>by
  rw[DM]at hn;split at hn
  ·exact⟨by assumption,hn⟩
  cases hn
 have tX:(dT (lg hd s.aA ad)).length=((lg hd s.aA ad).map (·.1)).length:=by unfold dT;simp
 refine Dk eh (gV (fun i cz bz=>cz "cache"=some (.ref c)∧cz "held"=some (.ref ha)∧aF (fun y=>y=q) ae bz∧∃act2,aS o q ay c d w D bz s.aA.length act2∧(∀n∈s.aA,act2 n=some ⟨ad n,s.now n,if n∈((lg hd s.aA ad).map (·.1)).take i then 0 else hd,1⟩)∧∀n,n∉s.aA→act2 n=none) ?_ ⟨?_,?_⟩)
 ·exact⟨q1,q4,.refl _ _,aJ,T0.C,fun n hn=>by rw[L0.a1 n hn,take_zero,aY (fun y=>by cases y)],L0.a0⟩
 ·rintro its i v cz bz hv - ⟨q1,q4,o1,act2,C1,a1,a0⟩:_
  have hn:∃n,((lg hd s.aA ad).map (·.1))[i]?=some n∧v=.int n:=by
   unfold dT at hv;obtain⟨x,h1,h2⟩:=dj hv;exact⟨x.1,by rw[List.getElem?_map,h1];rfl,h2⟩
  obtain⟨n,hn,rfl⟩:=hn;obtain⟨h1,Gl⟩:=Xz n (eF hn)
  have FQ:n∉((lg hd s.aA ad).map (·.1)).take i:=fun y=>by
   have e:=m7 i ((lg hd s.aA ad).map (·.1));have k:=Ux;rw[← e,lA]at k;exact k.2.2 n y n (eF (i:=0) (by rw[List.getElem?_drop,Nat.add_zero];exact hn)) rfl
  have hA:=a1 n Gl;rw[aY FQ,h1]at hA;obtain⟨Ju,rc,bn,m1,m2,m3,ec⟩:=C1.cell;have RT:=o1.at eh (by show ¬6=q;exists ho);refine cL ?_;lk;refine jq (v:=.ref (ad n)) RT (by rw[wY,bh ⟨h1,Gl⟩]) ?_;lk;refine aT (nQ (P:=fun y=>y=q) pr C1 rfl hA (by show(0:Int)<1;decide) (fun _ y=>by cases y) fun i2 qK h6 o7 C6=>?_) rfl;have e6:qK=s.aA.length:=qh h6;subst e6;lk;refine⟨⟨_,o7.at RT (by show ¬6=q;exists ho)⟩,by k_ne,by k_ne,o1.trans o7,_,C6,fun m hm=>?_,fun m hm=>(aY fun e:m=n=>hm (e▸Gl)).trans (a0 m hm)⟩;rw[c8 hn];by_cases e:m=n
  ·subst e;rw[bh (by simp)];exact bh rfl
  refine(aY e).trans ?_;rw[a1 m hm];simp[e]
 rintro cz bz - ⟨q1,q4,o1,act2,C1,a1,a0⟩:_
 rw[tX,ib]at a1
 lk
 refine h bz act2 ad (o0.trans (o1.mono fun y e=>e▸eV)) C1 (T0.J.only o1 O.zq) (o1.at T0.T (by show ¬7=q;exists ho)) ⟨fun n hn=>?_,a0,L0.out,L0.sub,L0.len,L0.c0⟩
 rw[a1 n hn,DM]
 rcases hh with rfl|rfl
 ·simp
 rw[bh rfl,bh hn]
end
open JL
theorem AD{a b:Int}{w:LV}{a' b':Int}{r:Bool}(h:xr k G σ v w r):if([.int a,.int b,v]:List LV).length=([.int a',.int b',w]:List LV).length then my k G σ [.int a,.int b,v] [.int a',.int b',w] ((a==a')&&((b==b')&&r))else((a==a')&&((b==b')&&r))=false:=by
 split
 ·exact⟨_,_,lK a a',⟨_,_,lK b b',⟨r,true,h,rfl,by simp⟩,rfl⟩,rfl⟩
 rename_i z;exact absurd rfl z
theorem nU{m:bW}(nd:(m.map (·.1)).Nodup){x:Int×bc}(hx:x∈m):cq m x.1=some x.2:=by
 revert nd hx
 revert m x
 rintro m x:(_)
 intro nd hx
 have:=oF (es:=aU m) (.refl _) (by unfold aU;rw[ey];exact nd) (k:=x.1) (v:=.bX x.2) (mem_map.mpr ⟨_,hx,rfl⟩)
 rw[eZ]at this
 cases q:cq m x.1 with
 |none=>nomatch q,this
 |some c=>rw[q]at this;cases this;rfl
theorem H4{aJ:Act}{v:Option fj}(h:aJ n=none):gj (gj aJ n v) n none=aJ:=by
 funext k
 unfold gj
 split
 ·rename_i e;rw[e,h]
 rfl
theorem yH{Q:LF→Loc→St→Prop}{st:Stmt}{aW:List Stmt}(I:Loc→St→Prop)(h:ST ep σ ρ X (MW (Hw ep X Q aW) I) (exec st X.aa))(k:∀bt σ',I bt σ'→ST ep σ' bt X Q (execs aW X.aa)):ST ep σ ρ X (Hw ep X Q aW) (exec st X.aa):=
 h.mono fun f bt σ' z=>by
  cases f with
  |next=>exact k bt σ' z
  |brk=>exact z
  |cont=>exact z
  |ret=>exact z
section
variable {G:Gd}{σ:St}{Q:LV→St→Prop}{ep:EP}{o q z:Nat}{c d j:Addr}{ay:Int}{D:aE}{w:Nat}{P:Nat→Prop}{J:AJ}{W:Wd}{aJ:Act}
theorem DN:∀ {wa fa:Addr} {mf:bW} {df:Nat} {u:Tag} (pr:Pr G) (hb:qA G) (hT:σ 629=some ((7,1,0),.table "_law_open_right.<locals>.<lambda>")) (hW:je σ wa W) (hC:aS o q ay c d w D σ J.ab.length aJ) (hJ:eU j c z σ J) (O:Own o q z) (ho:10≤o∧10≤q∧10≤z) (eV:P q) (hw:w≤8000) (AB:D.cj=false) (ef:σ fa=some (u,.dict (aU mf) df)) (hu:u.1≠q) (hF:mQ W mf) (hp:J.ab.Perm (mf.map (·.1))) (cU:(mf.length:Int)≤W.bb) (hc:J.aK=1) (j3:J.ay=W.bb) (j4:J.cK=W.cK) (j5:J.af=W.af) (j6:J.size=W.log) (hm:W.bb+1<ay) (vN:D.aQ=W.aQ) (a0:∀n,n∉mf.map (·.1)→aJ n=none) (a1:∀x∈mf,cont aJ D x.1=x.2) (h:∀σ',aF P σ σ'→aS o q ay c d w D σ' J.ab.length aJ→eU j c z σ' J→σ' 629=some ((7,1,0),.table "_law_open_right.<locals>.<lambda>")→Q (.bool true) σ'),CallT 6 b0 (.ref 632) G σ Q [.ref wa,.ref c,.ref j,.ref fa]:=by
 law_purse 0 =>
 revert G σ Q o q z c d j ay D w P J W aJ
 rintro G σ Q o q z c d j ay D w P J W aJ wa fa mf df:(_)
 rintro u:(_)
 w_up
 obtain⟨K,e1⟩:=id hW
 have k1:=K.p0
 have k2:=K.p1
 have k6:=K.b
 have dX:=j8 K
 have dY:J.ab.length=mf.length:=by rw[hp.length_eq,bB]
 have oJ:(aU mf).length=mf.length:=by unfold aU;rw[bB]
 have N8:(aU mf).map (·.1)=mf.map (·.1):=by unfold aU;rw[ey];rfl
 obtain⟨hl,he,dx,l,nd,es,RL,f1,f2,f3,f4⟩:=id hJ
 obtain⟨Ju,rc,bn,m1,m2,m3,ec⟩:=hC.cell
 wtm_at "Zn b0 c|world cache journal final"
 rintro cx aa L:(_)
 intro F1 F2 F3 F4 F5 F6 F7 F8
 refine mP (oB ["many","places"] F4 F1 (by k_in) (by f_are) ?_)
 lk
 refine oC ef %[dY,oJ|hl] ?_
 rw[oJ]
 lk
 refine xC rfl ?_
 refine mq (x:="places") (v:=.int W.bb) ?_
 lk
 refine aT (DF pr hJ ?_) rfl
 lk
 refine tP (ns:=J.ab) (.inl (.inr ⟨_,_,rfl,f2⟩)) %[cU,k2|dY] (bu ?_)
 lk
 refine bu ?_
 lk
 refine sj ef %[cU,k2|oJ] (bu ?_)
 lk
 refine bu ?_
 rw[N8]
 refine lL (.inl (.inl rfl)) (.inl (.inl rfl)) (AD (Hd (ns:=hH J.ab) (ms:=hH (mf.map (·.1))) (.inl (.inl rfl)) (.inl (.inl rfl)))) ?_
 rw[xT hp]
 have e0:(!((J.aK==1)&&(((J.ay-(J.ab.length:Int))==(W.bb-(mf.length:Int)))&&(hH (mf.map (·.1))==hH (mf.map (·.1))))))=false:=by rw[Fj hc,Fj (show J.ay-(J.ab.length:Int)=W.bb-(mf.length:Int)by rw[j3,dY])];simp
 rw[e0]
 lk
 refine aT (Jd pr hJ ?_) rfl
 have e1:J.room=decide ((mf.length:Int)+2*W.cK≤W.bb):=by
  unfold AJ.room;rw[hc,j4,j3,dY];rfl
 rw[e1]
 lk
 ·rename_i y;simp at y
 refine aT (Jc pr hC ?_) rfl
 repeat' ((fail_if_success (refine(?_:ST _ _ _ _ _ (exec (.If _ _ _ _) _))));back_in)
 refine yH (fun bt σ'=>bt "world"=some (.ref wa)∧bt "cache"=some (.ref c)∧bt "journal"=some (.ref j)∧bt "final"=some (.ref fa)∧aF (fun y=>y=q) σ σ'∧aS o q ay c d w D σ' J.ab.length aJ) ?_ ?_
 ·lk
  ·rename_i y;have yI:(mf.length:Int)=W.bb:=by simpa using y
   have Ak:J.ay-(J.ab.length:Int)=0:=by rw[j3,dY,yI];exact Int.sub_self _
   refine ri F1 F4 F5 (by f_are) (by k_in) (by intro _;with_unfolding_all rfl) (tR rfl ?_);lk;refine px (mH (by rw[bB];exists k2,dX) (fun i aR bz=>σ=bz∧aR=((W.data.take i).filter fun n=>!(mf.map (·.1)).contains n).map .int) ⟨rfl,rfl⟩ ⟨?_,?_⟩)
   ·rintro c' ij G1 G5 i v aR bz iG - ⟨rfl,rfl⟩:_;obtain⟨n,hn,rfl⟩:=dj iG;refine cL ?_;lk;refine A3 ef ?_;rw[xI N8 n]
    have hs:∀b,(!(mf.map (·.1)).contains n)=b→(((W.data.take (i+1)).filter fun n=>!(mf.map (·.1)).contains n).map LV.int)=((W.data.take i).filter fun n=>!(mf.map (·.1)).contains n).map .int++if b then[.int n]else[]:=fun b hb=>by
     rw[c8 hn,filter_append,bZ,oU,hb];cases b<;>rfl
    lk
    ·rename_i y;exact⟨trivial,rfl,by rw[hs true y];rfl⟩
    rename_i y;exact⟨trivial,rfl,by rw[hs false y];simp⟩
   rintro aR bz - ⟨rfl,rfl⟩:_;rw[bB,ib]
   obtain⟨n,r,hL⟩:∃n r,(W.data.filter fun n=>!(mf.map (·.1)).contains n)=n::r:=by
    cases q:W.data.filter fun n=>!(mf.map (·.1)).contains n with
    |cons n r=>exact⟨n,r,rfl⟩
    |nil =>
     exfalso
     have:=sM (pY W) (b:=mf.map (·.1)) fun x hx=>by
      have:=List.filter_eq_nil_iff.mp q x hx;exact contains_iff_mem.mp (by simpa using this)
     rw[bB]at this;exists dX,yI,this
   have hn:n∈W.data.filter fun n=>!(mf.map (·.1)).contains n:=by rw[hL];exact gQ ..
   obtain⟨fB,Gp⟩:=mem_filter.mp hn;have Gp:n∉mf.map (·.1):=fun z=>by nomatch(contains_iff_mem.mpr z),Gp
   have XA:J.ab.contains n=false:=by
    cases q:J.ab.contains n with
    |false=>rfl
    |true=>exact absurd (hp.mem_iff.mp (contains_iff_mem.mp q)) Gp
   obtain⟨n0,n1,n2⟩:=eX.mp fB;rw[hL];refine bu ?_;lk;refine dD (v:=.int n) (.inl (.inl rfl)) %[|0] %[|0] rfl ?_;lk;refine aT (DC (P:=fun y=>y=q) pr hC rfl hw AB n0 %[vN|n1] (fun _=>by exists hm,dY,yI) fun dG a b hh p cnt' y1 y2 o4 C4=>?_) rfl;rcases y1 with⟨y1,-⟩|⟨-,y3,y4,y5,y6⟩
   ·nomatch(a0 n Gp),y1
   subst y3 y4 y5 y6;have N9:gj aJ n (some ⟨a,D.bk n,0+1,0⟩) n=some ⟨a,D.bk n,0+1,0⟩:=bh rfl;obtain⟨Xu,ba,B4,-⟩:=C4.buf N9;have eb4:=B4.a;have J4:=hJ.only o4 O.zq;have N7:=o4.at f1 O.zq;have T4:=o4.at hT (by show ¬7=q;exists ho);obtain⟨Zz,rc4,bn4,m14,m24,m34,RU⟩:=C4.cell;lk;refine z7 (m:=3) (f:=613) (C:=76) (exn:="NoRoom") (dn:="deed") (jy rfl) F1 F5 rfl F7 (by rw[pr.K];k_in) (by rw[F8];rfl) T4 hb (by f_are) %[|0] %[|0] %[|0] (fun pm cd ct=>by with_unfolding_all rfl) %[|0] (pr.glob %[|0]).1 (pr.glob (x:="_law_is_let") %[|0]).2 (by rw[pr.K];rfl) rfl (by rw[pr.K];k_in) (fun vs hl=>bind1 hl fun _=>rfl) %[|0] %[|0] %[|0] (pr.glob %[|0]).1 (qH pr).own (qH pr).tup %[|0] %[|0] (fun Xo Uv E1 E2 E3 E4 E5=>?_);lk;refine fu (FN (P:=fun y=>y=q∨y=z) pr C4 J4 ⟨O.zo,O.zq⟩ (.inr rfl) (.inl rfl) N9 (by show(0:Int)<1;decide) %[|hc] (by rw[j5,j6];exact n2) %[j3|k2] (fun y=>?_) (fun y y2 iZ o5 C5 J5=>?_) fun y y2=>⟨rfl,?_⟩) rfl
   ·nomatch XA,y
   ·(exfalso;revert j3 dY yI y2;room)
   lk;refine aT (nQ (P:=fun y=>y=q) pr C4 rfl N9 (by show(0:Int)<1;decide) (fun _ _=>rfl) fun i2 qK h6 o6 C6=>?_) rfl
   have e6:qK=J.ab.length:=by
    have:qK+1=J.ab.length+1+0:=h6;exists this
   subst e6;have e7:gj (gj aJ n (some ⟨a,D.bk n,0+1,0⟩)) n (mB ⟨a,D.bk n,0+1,0⟩)=aJ:=H4 (a0 n Gp);rw[e7]at C6;have J6:=J4.only o6 O.zq;have ej6:=o6.at N7 O.zq;lk;refine aT (DF pr J6 ?_) rfl;lk;exact⟨by k_ne,by k_ne,by k_ne,by k_ne,o4.trans o6,C6⟩
  exact⟨rfl,rfl,rfl,rfl,.refl _ _,hC⟩
 rintro aC jb:(_)
 rintro⟨q1,q2,q3,q4,o1,C1⟩:_
 have AE:=o1.at ef hu
 obtain⟨ZA,rc1,bn1,m11,m21,m31,ec1⟩:=C1.cell
 have tX:(dT (aU mf)).length=mf.length:=by unfold dT aU;simp
 have Jk:∀ {i:Nat} {v:LV},(dT (aU mf))[i]?=some v→∃x,mf[i]?=some x∧v=.int x.1:=fun {i v} y=>by
  unfold dT aU at y;rw[ey]at y;exact dj y
 lk
 refine ri F1 F4 F5 (by f_are) (by k_in) (by intro _;with_unfolding_all rfl) (yz rfl ?_)
 lk
 refine Dk AE (mH %[dY,hl|tX] (fun i aR bz=>aF (fun y=>y=q) σ bz∧aS o q ay c d w D bz J.ab.length aJ∧aR=jD ((mf.take i).map (·.2))) ⟨o1,C1,rfl⟩ ⟨?_,?_⟩)
 ·rintro c' ij:(_);rintro G1 G5 i v aR bz iG - ⟨o3,C3,rfl⟩:_;obtain⟨x,hx,rfl⟩:=Jk iG;obtain⟨n0,n1,n2⟩:=eX.mp (hF.e x (eF hx)).1;obtain⟨ZC,rc3,bn3,m13,m23,m33,ec3⟩:=C3.cell;refine cL ?_;lk;refine aT (vX (P:=fun y=>y=q) pr C3 rfl hw AB n0 %[vN|n1] (fun _=>by exists cU,hm,dY) fun dG o4 C4=>?_) rfl;rw[a1 x (eF hx)];refine⟨⟨_,(o3.trans o4).at ef hu⟩,o3.trans o4,C4,?_⟩;unfold jD;rw[c8 hx,bZ,bZ];rfl
 rintro aR dP:(_)
 rintro - ⟨o3,C3,rfl⟩:_
 rw[tX,ib]
 have AF:=o3.at ef hu
 refine bu ?_
 lk
 refine ri F1 F4 F5 (by f_are) (by k_in) (by intro _;with_unfolding_all rfl) (yz rfl ?_)
 lk
 refine Dk AF (mH %[dY,hl|tX] (fun i aR cg=>dP=cg∧aR=jD ((mf.take i).map (·.2))) ⟨rfl,rfl⟩ ⟨?_,?_⟩)
 ·rintro c' ij G1 G5 i v aR bz iG - ⟨rfl,rfl⟩:_;obtain⟨x,hx,rfl⟩:=Jk iG;refine cL ?_;lk;refine jq (v:=.bX x.2) AF (by rw[eZ,nU hF.nd (eF hx)];rfl) ?_;refine⟨⟨_,AF⟩,rfl,?_⟩;unfold jD;rw[c8 hx,bZ,bZ];rfl
 rintro aR dG - ⟨rfl,rfl⟩:_
 rw[tX,ib]
 refine bu ?_
 refine qu (.inl (.inl rfl)) (.inl (.inl rfl)) (zr (mf.map (·.2)) (mf.map (·.2))) ?_
 rw[show(mf.map (·.2)==mf.map (·.2))=true by simp]
 lk
 exact h _ (o3.mono fun y e=>e▸eV) C3 (hJ.only o3 O.zq) (o3.at hT (by show ¬7=q;exists ho))
end
open JL
noncomputable def app:aE→List Op→aE
 |D,[]=>D
 |D,.wr n b::r=>app (D.wr n b) r
 |D,.fl::r=>app D.fl r
noncomputable def ip:List Op→Int
 |[]=>0
 |.wr _ _::r=>ip r
 |.fl::r=>ip r+1
theorem Jw{b:bc}{r:List Op}:ip (.wr n b::r)=ip r:=rfl
theorem Jx{r:List Op}:ip (.fl::r)=ip r+1:=rfl
theorem Jy{b:bc}{r:List Op}:fJ (.wr n b::r)=fJ r+1:=rfl
theorem Jz{r:List Op}:fJ (.fl::r)=fJ r:=rfl
theorem iT(a b:List Op):∀D,app D (a++b)=app (app D a) b:=by
 induction a with
 |nil=>intro D;rfl
 |cons x r ih=>intro D;cases x<;>exact ih _
theorem AG(ops:List Op):∀ {D:aE},D.last=none→D.bl=none→bH D ops=some (app D ops):=by
 induction ops with
 |nil=>intro D _ _;rfl
 |cons x r ih =>
  intro D h1 h2;cases x with
  |wr n b=>rw[ej];rw[h1];exact ih (D:=D.wr n b) h1 h2
  |fl=>rw[ek];rw[h2];exact ih (D:=D.fl) h1 h2
theorem iU(a b:List Op):fJ (a++b)=fJ a+fJ b:=by
 induction a with
 |nil=>exact(Int.zero_add _).symm
 |cons x r ih=>cases x<;>simp only[List.cons_append,Jy,Jz,ih]<;>room
theorem gA(a b:List Op):ip (a++b)=ip a+ip b:=by
 induction a with
 |nil=>exact(Int.zero_add _).symm
 |cons x r ih=>cases x<;>simp only[List.cons_append,Jw,Jx,ih]<;>room
theorem KZ(a:List Op):0≤fJ a:=by
 induction a with
 |nil=>exact fh _
 |cons x r ih=>cases x<;>simp only[Jy,Jz]<;>exists ih
theorem K1(a:List Op):0≤ip a:=by
 induction a with
 |nil=>exact fh _
 |cons x r ih=>cases x<;>simp only[Jw,Jx]<;>exists ih
structure RV(D D':aE)(w f:Int):Prop where
 aQ:D'.aQ=D.aQ
 size:D'.size=D.size
 cj:D'.cj=D.cj
 writes:D'.writes=D.writes+w
 bj:D'.bj=D.bj+f
 last:D'.last=D.last
 bl:D'.bl=D.bl
theorem lS(ops:List Op):∀D,RV D (app D ops) (fJ ops) (ip ops):=by
 induction ops with
 |nil=>intro D;exact⟨rfl,rfl,rfl,(oS _).symm,(oS _).symm,rfl,rfl⟩
 |cons x r ih =>
  intro D;cases x with
  |wr n b =>
   obtain⟨h1,h2,h3,h4,h5,h6,h7⟩:=ih (D.wr n b);exact⟨h1,h2,h3,by rw[show app D (.wr n b::r)=app (D.wr n b) r from rfl,h4];show D.writes+1+fJ r=D.writes+(fJ r+1);room,h5,h6,h7⟩
  |fl =>
   obtain⟨h1,h2,h3,h4,h5,h6,h7⟩:=ih D.fl;exact⟨h1,h2,h3,h4,by rw[show app D (.fl::r)=app D.fl r from rfl,h5];show D.bj+1+ip r=D.bj+(ip r+1);room,h6,h7⟩
theorem wc(n:Int)(ops:List Op):∀D,(app D ops).tv n=c9 n ops (D.tv n):=by
 induction ops with
 |nil=>intro D;rfl
 |cons x r ih =>
  intro D;cases x with
  |wr k b=>rw[show app D (.wr k b::r)=app (D.wr k b) r from rfl,ih,Jp];rfl
  |fl=>exact ih D.fl
theorem Oa(ops:List Op):∀ {D:aE} {w:Nat},D.Ok w→(∀n b,Op.wr n b∈ops→(b.length:Int)=D.size)→(app D ops).Ok (w+3*ops.length):=by
 induction ops with
 |nil=>intro D w h _;exact h
 |cons x r ih =>
  intro D w h k;cases x with
  |wr n b =>
   have:=ih (h.wr (n:=n) (k n b (gQ ..))) fun n' b' hb=>k n' b' (gb _ hb);exact this.mono (by rw[gH];room)
  |fl =>
   have:=ih h.fl fun n' b' hb=>k n' b' (gb _ hb);exact this.mono (by rw[gH];room)
noncomputable def cf:bW→List Op:=List.map fun p=>Op.wr p.1 p.2
theorem wZ(u:bW):∀D,(app D (cf u)).bx=D.bx++u∧(app D (cf u)).kept=D.kept:=by
 induction u with
 |nil=>intro D;exact⟨(ng _).symm,rfl⟩
 |cons p r ih =>
  intro D;obtain⟨h1,h2⟩:=ih (D.wr p.1 p.2);refine⟨?_,h2⟩;rw[show app D (cf (p::r))=app (D.wr p.1 p.2) (cf r)from rfl,h1];show D.bx++[(p.1,p.2)]++r=_;rw[gq];rfl
theorem qP:∀ {u k:bW},(∀e∈u,e.1≠n)→cq (bS k u) n=cq k n:=by
 intro ll
 induction ll with
 |nil =>
  rintro _ _;exact rfl
 |cons p r ih =>
  rintro k h;show cq (bS (eB k p.1 p.2) r) n=_;rw[ih fun e he=>h e (gb _ he),js,aY fun z=>h p (gQ ..) z.symm]
theorem H5{cs:List Int}{u:bW}{e:Int×bc}(h:e∈gy cs u):e∈u:=by
 unfold gy at h
 obtain⟨x,hx,rfl⟩:=gB h
 exact eF (List.mem_zipIdx_iff_getElem?.mp (mem_filter.mp hx).1)
theorem H8(u:bW):gy [] u=[]:=by
 unfold gy
 rw[List.filter_eq_nil_iff.mpr fun x _=>by simp];rfl
section
variable {D:aE}{cs:List Int}{u:bW}
theorem uH(hu:D.bx=[])(n:Int):((app D (cf u)).ju.jN cs).bk n=(cq (bS D.kept (gy cs u)) n).getD (List.replicate D.size.toNat 0):=by
 show(cq (bS (app D (cf u)).kept (gy cs (app D (cf u)).bx)) n).getD (List.replicate (app D (cf u)).size.toNat 0)=_
 rw[(wZ u D).1,(wZ u D).2,hu,(lS _ D).size];rfl
theorem xa(hu:D.bx=[])(n:Int):D.tv n=(cq D.kept n).getD (List.replicate D.size.toNat 0):=by unfold aE.tv;rw[hu];rfl
theorem K2(hu:D.bx=[])(h:∀e∈u,e.1≠n):((app D (cf u)).ju.jN cs).bk n=D.tv n:=by rw[uH hu,xa hu,qP fun e he=>h e (H5 he)]
theorem H9(hu:D.bx=[])(n:Int):((app D (cf u)).ju.jN []).bk n=D.tv n:=by rw[uH hu,xa hu,H8];rfl
theorem BX{p:Int×bc}(hu:D.bx=[])(hc:cs≠[])(Ob:∀x∈cs,0≤x∧x<(1:Int))(n:Int):((app D (cf [p])).ju.jN cs).bk n=if n=p.1 then p.2 else D.tv n:=by
 have hp:gy cs [p]=[p]:=by
  have h0:(0:Int)∈cs:=by
   cases cs with
   |nil=>exact absurd rfl hc
   |cons x r =>
    have:=Ob x (gQ ..);have:x=0:=by exists this
    rw[this];exact gQ ..
  have h1:cs.contains (((p,0):(Int×bc)×Nat).2:Int)=true:=contains_iff_mem.mpr h0;unfold gy;rw[show[p].zipIdx=[(p,0)]from rfl,oU,bh h1];rfl
 rw[uH hu,xa hu,hp]
 show(cq (eB D.kept p.1 p.2) n).getD _=_
 rw[js]
 split<;>rfl
end
noncomputable def xU(o:Option Int)(b k:Int):Prop:=∀l,o=some l→b+k≤l
theorem K3(ops:List Op):∀ {D:aE},xU D.last D.writes (fJ ops)→xU D.bl D.bj (ip ops)→bH D ops=some (app D ops):=by
 induction ops with
 |nil=>intro D _ _;rfl
 |cons x r ih =>
  intro D h1 h2;cases x with
  |wr n b =>
   have k:=KZ r
   have hr:¬(cG D.last D.writes=true):=fun z=>by
    cases q:D.last with
    |none=>nomatch q,z
    |some l =>
     have y:D.writes+(fJ r+1)≤l:=h1 l q;rw[q]at z;have:=lu z;exists k,y,this
   first|rw[ej]|rw[ek]
   rw[aY hr];exact ih (D:=D.wr n b) (fun l q=>by have y:D.writes+(fJ r+1)≤l:=h1 l q;show D.writes+1+_≤_;exists y) h2
  |fl =>
   have k:=K1 r
   have hr:¬(cG D.bl D.bj=true):=fun z=>by
    cases q:D.bl with
    |none=>nomatch q,z
    |some l =>
     have y:D.bj+(ip r+1)≤l:=h2 l q;rw[q]at z;have:=lu z;exists k,y,this
   first|rw[ej]|rw[ek]
   rw[aY hr];exact ih (D:=D.fl) h1 fun l q=>by have y:D.bj+(ip r+1)≤l:=h2 l q;show D.bj+1+_≤_;exists y
noncomputable def Ql(D:aE):Op→Prop
 |.wr _ _=>cG D.last D.writes=true
 |.fl=>cG D.bl D.bj=true
theorem oO{D:aE}{a r:List Op}{x:Op}(h1:xU D.last D.writes (fJ a))(h2:xU D.bl D.bj (ip a))(h:Ql (app D a) x):bH D (a++x::r)=none∧dN D (a++x::r)=(app D a).ju:=by
 have k:=K3 a h1 h2
 rw[cN,k,kX _ _ k]
 cases x with
 |wr n b=>exact⟨bh h,bh h⟩
 |fl=>exact⟨bh h,bh h⟩
theorem qb(u:bW):fJ (cf u)=u.length:=by
 induction u with
 |nil=>rfl
 |cons p r ih=>show fJ (cf r)+1=_;rw[ih,gH];push_cast;rfl
theorem mV(u:bW):ip (cf u)=0:=by
 induction u with
 |nil=>rfl
 |cons p r ih=>exact ih
section
variable (af size:Int)(au:Int→bc)(ab:List Int)
noncomputable def d8:bW:=ab.zipIdx.map fun p=>(af+1+(p.2:Int),au p.1)
noncomputable def cy:bW:=ab.map fun n=>(n,au n)
noncomputable def S1:List Op:=cf (d8 af au ab)++[.fl]
noncomputable def S2:List Op:=S1 af au ab++[.wr af (br ab size),.fl]
noncomputable def S3:List Op:=S2 af size au ab++(cf (cy au ab)++[.fl])
inductive Phase:Int→List Op→bW→Prop
 |p0 (c:Nat):Phase 0 [] ((d8 af au ab).take c)
 |Oc:Phase 1 (S1 af au ab) []
 |Od:Phase 1 (S1 af au ab) [(af,br ab size)]
 |p2 (i:Nat):Phase 2 (S2 af size au ab) ((cy au ab).take i)
 |Oe:Phase 3 (S3 af size au ab) []
 |Of:Phase 3 (S3 af size au ab) [(af,br [] size)]
end
section
variable {af size:Int}{au:Int→bc}{ab:List Int}
theorem we(a b:bW):cf (a++b)=cf a++cf b:=bZ
theorem nV:(d8 af au ab).length=ab.length:=by unfold d8;simp
theorem nW:(cy au ab).length=ab.length:=by unfold cy;simp
theorem xc:cB af size au ab=cf (d8 af au ab)++.fl::([.wr af (br ab size),.fl]++(cf (cy au ab)++[.fl,.wr af (br [] size),.fl])):=by
 have e1:hU af au ab=cf (d8 af au ab):=by unfold hU cf d8;rw[ey];rfl
 have e2:cQ au ab=cf (cy au ab):=by unfold cQ cf cy;rw[ey];rfl
 unfold cB
 rw[e1,e2];simp
theorem AH:cB af size au ab=S1 af au ab++.wr af (br ab size)::.fl::(cf (cy au ab)++[.fl,.wr af (br [] size),.fl]):=by rw[xc];unfold S1;simp
theorem DO:cB af size au ab=S2 af size au ab++(cf (cy au ab)++.fl::[.wr af (br [] size),.fl]):=by rw[AH];unfold S2;simp
theorem uI:cB af size au ab=S3 af size au ab++.wr af (br [] size)::[.fl]:=by rw[DO];unfold S3;simp
theorem qQ:fJ (S1 af au ab)=ab.length∧ip (S1 af au ab)=1:=by
 unfold S1
 rw[iU,gA,qb,mV,nV]
 exact⟨oS _,rfl⟩
theorem sU:fJ (S2 af size au ab)=ab.length+1∧ip (S2 af size au ab)=2:=by
 unfold S2
 rw[iU,gA,qQ.1,qQ.2]
 exact⟨rfl,rfl⟩
theorem qR:fJ (S3 af size au ab)=2*ab.length+1∧ip (S3 af size au ab)=3:=by
 unfold S3
 rw[iU,gA,sU.1,sU.2,iU,gA,qb,mV,nW]
 exact⟨by show(ab.length:Int)+1+(ab.length+0)=_;room,rfl⟩
structure AK(af size:Int)(au:Int→bc)(ab:List Int)(D:aE)(w f:Int):Prop where
 none:bH D (cB af size au ab)=none
 ph:∃S u,Phase af size au ab f S u∧dN D (cB af size au ab)=(app (app D S) (cf u)).ju∧fJ S+u.length=w∧ip S=f∧∃r,cB af size au ab=(S++cf u)++r
variable {D:aE}
theorem wg{m c:Int}{a b d:Bool}(h1:decide (m≤c)=a)(h2:decide (m<c)=b)(h3:decide (2*m<c)=d):pB m c=(if a=true then 1 else 0)+(if b=true then 1 else 0)+(if d=true then 1 else 0):=by unfold pB;rw[h1,h2,h3]
theorem Og:∀ {c:Int} (h1:D.last=some (D.writes+c)) (h2:D.bl=none) (h0:0≤c) (hc:c<2*(ab.length:Int)+2),AK af size au ab D c (pB ab.length c):=by
 law_purse 0 =>
 revert af size au ab D
 rintro af size au ab D:(_)
 rintro c:(_)
 w_up
 have l1:∀ {k:Int},k≤c→xU D.last D.writes k:=fun hk l e=>by rw[h1]at e;cases e;exists hk
 have l2:∀ {k:Int},xU D.bl D.bj k:=fun l e=>by nomatch h2,e
 have hf:∀ {a:List Op},fJ a=c→cG (app D a).last (app D a).writes=true:=fun {a} e=>by
  rw[(lS a D).last,(lS a D).writes,h1,e];exact ia (fh _)
 by_cases c1:c<ab.length
 ·have hi:c.toNat<(d8 af au ab).length:=by rw[nV];(have w0:=Ln.fT (c);revert h0 c1 w0;room)
  have hl:((d8 af au ab).take c.toNat).length=c.toNat:=by rw[iM];(have w0:=Ln.gm (c.toNat) ((d8 af au ab).length);revert hi w0;room)
  have e:cB af size au ab=cf ((d8 af au ab).take c.toNat)++.wr (d8 af au ab)[c.toNat].1 (d8 af au ab)[c.toNat].2::(cf ((d8 af au ab).drop (c.toNat+1))++.fl::([.wr af (br ab size),.fl]++(cf (cy au ab)++[.fl,.wr af (br [] size),.fl]))):=by
   rw[xc]
   conv=>lhs;rw[← m7 c.toNat (d8 af au ab),mY hi,we]
   rw[gq];rfl
  have hn:fJ (cf ((d8 af au ab).take c.toNat))=c:=by rw[qb,hl];(have w0:=Ln.fT (c);revert h0 w0;room)
  obtain⟨k1,k2⟩:=oO (D:=D) (a:=cf ((d8 af au ab).take c.toNat)) (x:=.wr (d8 af au ab)[c.toNat].1 (d8 af au ab)[c.toNat].2) (r:=cf ((d8 af au ab).drop (c.toNat+1))++.fl::([.wr af (br ab size),.fl]++(cf (cy au ab)++[.fl,.wr af (br [] size),.fl]))) (l1 %[|hn]) l2 (hf hn);rw[← e]at k1 k2;refine⟨k1,[],_,?_,k2,?_,?_,_,e⟩
  ·have:pB ab.length c=0:=wg (jx %[|c1]) (jx %[|c1]) (jx %[|c1]);rw[this];exact .p0 _
  ·rw[hl];show(0:Int)+_=_;(have w0:=Ln.fT (c);revert h0 w0;room)
  show(0:Int)=_;exact(wg (jx %[|c1]) (jx %[|c1]) (jx %[|c1])).symm
 by_cases c2:c=ab.length
 ·obtain⟨k1,k2⟩:=oO (D:=D) (a:=S1 af au ab) (x:=.wr af (br ab size)) (r:=.fl::(cf (cy au ab)++[.fl,.wr af (br [] size),.fl])) (l1 (by rw[qQ.1];exists c2)) l2 (hf (by rw[qQ.1];exists c2));rw[← AH]at k1 k2;have Gq:pB ab.length c=1:=wg (ia %[|c2]) (jx %[|c2]) (jx %[|c2]);rw[Gq];exact⟨k1,_,[],.Oc,k2,by rw[qQ.1];show _+(0:Int)=_;(exists c2),qQ.2,_,AH.trans (congrArg (·++_) (ng _).symm)⟩
 by_cases c3:c≤2*(ab.length:Int)
 ·have hi:(c-ab.length-1).toNat<(cy au ab).length:=by rw[nW];(have w0:=Ln.fT (c - ↑ab.length-1);revert c1 c2 c3 w0;room)
  have hl:((cy au ab).take (c-ab.length-1).toNat).length=(c-ab.length-1).toNat:=by rw[iM];(have w0:=Ln.gm ((c - ↑ab.length-1).toNat) ((cy au ab).length);revert hi w0;room)
  generalize hj:(c-ab.length-1).toNat=i at hi hl
  have e:cB af size au ab=(S2 af size au ab++cf ((cy au ab).take i))++.wr (cy au ab)[i].1 (cy au ab)[i].2::(cf ((cy au ab).drop (i+1))++.fl::[.wr af (br [] size),.fl]):=by
   rewrite [DO]
   conv=>lhs;rw[← m7 i (cy au ab),mY hi,we]
   rewrite [gq,gq];rfl
  have hn:fJ (S2 af size au ab++cf ((cy au ab).take i))=c:=by rw[iU,sU.1,qb,hl];(have w0:=Ln.fT (c - ↑ab.length-1);revert c1 c2 hj w0;room)
  obtain⟨k1,k2⟩:=oO (D:=D) (a:=S2 af size au ab++cf ((cy au ab).take i)) (x:=.wr (cy au ab)[i].1 (cy au ab)[i].2) (r:=cf ((cy au ab).drop (i+1))++.fl::[.wr af (br [] size),.fl]) (l1 %[|hn]) l2 (hf hn);rw[← e]at k1 k2;rw[iT]at k2;have Gq:pB ab.length c=2:=wg (ia (Int.not_lt.mp c1)) (ia (Int.lt_iff_le_and_ne.mpr ⟨Int.not_lt.mp c1,Ne.symm c2⟩)) (jx (Int.not_lt.mpr c3));rw[Gq];exact⟨k1,_,_,.p2 i,k2,by rw[sU.1,hl];(have w0:=Ln.fT (c - ↑ab.length-1);revert c1 c2 hj w0;room),sU.2,_,e⟩
 obtain⟨k1,k2⟩:=oO (D:=D) (a:=S3 af size au ab) (x:=.wr af (br [] size)) (r:=[.fl]) (l1 (by rw[qR.1];exists c3)) l2 (hf (by rw[qR.1];exists hc,c3))
 rw[← uI]at k1 k2
 have Gq:pB ab.length c=3:=wg (ia %[|c3]) (ia %[|c3]) (ia %[|c3])
 rw[Gq]
 exact⟨k1,_,[],.Oe,k2,by rw[qR.1];show _+(0:Int)=_;(exists hc,c3),qR.2,_,uI.trans (congrArg (·++_) (ng _).symm)⟩
theorem Oh:∀ {c w:Int} (h1:D.last=none) (h2:D.bl=some (D.bj+c)) (hc:c=0∧w=ab.length∨c=1∧w=ab.length+1∨c=2∧w=2*ab.length+1∨c=3∧w=2*ab.length+2),AK af size au ab D w c:=by
 law_purse 0 =>
 revert af size au ab D
 rintro af size au ab D c w:(_)
 w_up
 have l1:∀ {k:Int},xU D.last D.writes k:=fun l e=>by nomatch h1,e
 have l2:∀ {k:Int},k≤c→xU D.bl D.bj k:=fun hk l e=>by rw[h2]at e;cases e;exists hk
 have hf:∀ {a:List Op},ip a=c→cG (app D a).bl (app D a).bj=true:=fun {a} e=>by
  rw[(lS a D).bl,(lS a D).bj,h2,e];exact ia (fh _)
 rcases hc with hK|hK|hK|hK
 ·obtain⟨rfl,rfl⟩:=hK;obtain⟨k1,k2⟩:=oO (D:=D) (a:=cf (d8 af au ab)) (x:=.fl) (r:=[.wr af (br ab size),.fl]++(cf (cy au ab)++[.fl,.wr af (br [] size),.fl])) l1 (l2 (by rw[mV];exact fh _)) (hf (mV _));rw[← xc]at k1 k2;have p:=Phase.p0 (af:=af) (size:=size) (au:=au) (ab:=ab) ab.length;rw[oR (by rw[nV];exact fg _)]at p;exact⟨k1,[],_,p,k2,by rw[nV];show(0:Int)+_=_;room,rfl,_,xc⟩
 ·obtain⟨rfl,rfl⟩:=hK;have e:ip (S1 af au ab++[.wr af (br ab size)])=1:=by rw[gA,qQ.2];rfl
  obtain⟨k1,k2⟩:=oO (D:=D) (a:=S1 af au ab++[.wr af (br ab size)]) (x:=.fl) (r:=cf (cy au ab)++[.fl,.wr af (br [] size),.fl]) l1 (l2 (by rw[e];exact fh _)) (hf e);rw[gq,List.singleton_append,← AH]at k1 k2;rw[iT]at k2;exact⟨k1,_,_,.Od,k2,by rw[qQ.1];rfl,qQ.2,_,by rw[gq];exact AH⟩
 ·obtain⟨rfl,rfl⟩:=hK;have e:ip (S2 af size au ab++cf (cy au ab))=2:=by rw[gA,sU.2,mV];rfl
  obtain⟨k1,k2⟩:=oO (D:=D) (a:=S2 af size au ab++cf (cy au ab)) (x:=.fl) (r:=[.wr af (br [] size),.fl]) l1 (l2 (by rw[e];exact fh _)) (hf e);rw[gq,← DO]at k1 k2;rw[iT]at k2;have p:=Phase.p2 (af:=af) (size:=size) (au:=au) (ab:=ab) ab.length;rw[oR (by rw[nW];exact fg _)]at p;exact⟨k1,_,_,p,k2,by rw[sU.1,nW];room,sU.2,_,by rw[gq];exact DO⟩
 obtain⟨rfl,rfl⟩:=hK
 have e:ip (S3 af size au ab++[.wr af (br [] size)])=3:=by rw[gA,qR.2];rfl
 obtain⟨k1,k2⟩:=oO (D:=D) (a:=S3 af size au ab++[.wr af (br [] size)]) (x:=.fl) (r:=[]) l1 (l2 (by rw[e];exact fh _)) (hf e)
 rw[gq,List.singleton_append,← uI]at k1 k2
 rw[iT]at k2
 exact⟨k1,_,_,.Of,k2,by rw[qR.1];show _+(1:Int)=_;room,qR.2,_,by rw[gq];exact uI⟩
end
theorem xV{s:Int}(h:4≤s):br [] s=List.replicate s.toNat 0:=by
 unfold br
 have e1:dI ((([]:List Int).length:Int)::[])=List.replicate 4 0:=rfl
 rw[e1,List.replicate_append_replicate]
 congr 1
 show 4+(s-4*(((0:Nat):Int)+1)).toNat=_
 (have w0:=Ln.fT (s-4*(↑0+1));have w1:=Ln.fT (s);revert h w0 w1;room)
theorem c5{u:bW}(h:∀e∈u,e.1≠n)(v:bc):c9 n (cf u) v=v:=jd (fun k b y=>by
 obtain⟨e,he,q⟩:=gB y
 cases q
 exact fun z=>h e he z.symm) v
section
variable {af size:Int}{au:Int→bc}{ab:List Int}{n:Int}{v:bc}
theorem oQ:∀ {i:Nat} (h:ab[i]?=some n),c9 (af+1+i) (cf (d8 af au ab)) v=au n:=by
 revert af au ab n v
 rintro af au ab n v:(_)
 rintro i:(_)
 w_up
 have key:∀(l:List Int) (k i:Nat) (v:bc),l[i]?=some n→c9 (af+1+((k+i:Nat):Int)) (cf ((l.zipIdx k).map fun p=>(af+1+(p.2:Int),au p.1))) v=au n:=by
  intro l
  induction l with
  |nil=>intro k i v h;cases h
  |cons x r ih =>
   intro k i v h;rw[List.zipIdx_cons,ew];show c9 _ (cf ((r.zipIdx (k+1)).map fun p=>(af+1+(p.2:Int),au p.1))) (if af+1+((k+i:Nat):Int)=af+1+((k:Nat):Int)then au x else v)=_;cases i with
   |zero =>
    cases h;rw[Nat.add_zero,bh rfl,c5];intro e he;obtain⟨p,hp,rfl⟩:=gB he;have:=List.le_snd_of_mem_zipIdx hp;show af+1+((p.2:Nat):Int)≠_;exists this
   |succ i =>
    have:=ih (k+1) i (if af+1+((k+(i+1):Nat):Int)=af+1+((k:Nat):Int)then au x else v) h;rw[show k+1+i=k+(i+1)by room]at this;exact this
 have:=key ab 0 i v h
 rw[Nat.zero_add]at this
 exact this
theorem uJ{e:Int×bc}(h:e∈d8 af au ab):af<e.1∧e.1≤af+ab.length:=by
 unfold d8 at h
 obtain⟨p,hp,rfl⟩:=gB h
 have:=(List.getElem?_eq_some_iff.mp (List.mem_zipIdx_iff_getElem?.mp hp)).1
 show af<af+1+(p.2:Int)∧af+1+(p.2:Int)≤_
 exists this
theorem AL{e:Int×bc}(h:e∈cy au ab):e.1∈ab:=by
 unfold cy at h
 obtain⟨p,hp,rfl⟩:=gB h
 exact hp
theorem wh(h:n∈ab):c9 n (cf (cy au ab)) v=au n:=by
 have e2:cQ au ab=cf (cy au ab):=by unfold cQ cf cy;rw[ey];rfl
 rw[← e2];exact oM h v
theorem j9:c9 n (S1 af au ab) v=c9 n (cf (d8 af au ab)) v:=by unfold S1;rw[dU];rfl
theorem qS:c9 n (S2 af size au ab) v=if n=af then br ab size else c9 n (cf (d8 af au ab)) v:=by unfold S2;rw[dU,j9];rfl
theorem jf:c9 n (S3 af size au ab) v=c9 n (cf (cy au ab)) (if n=af then br ab size else c9 n (cf (d8 af au ab)) v):=by unfold S3;rw[dU,dU,qS];rfl
end
theorem mu(a:List Op)(D:aE):(app D (a++[.fl])).bx=[]:=by rw[iT];rfl
structure uK(W:Wd)(D:aE)(old:Int→bc):Prop where
 JA:D.mK
 bx:D.bx=[]
 cj:D.cj=false
 last:D.last=none
 bl:D.bl=none
 aQ:D.aQ=W.aQ
 size:D.size=W.size
 head:D.bk W.af=List.replicate W.size.toNat 0
 data:∀n∈W.data,D.bk n=old n
theorem Oi{W:Wd}{D:aE}{au fin old nw:Int→bc}{ab:List Int}{mf:bW}{f:Int}{S:List Op}{u:bW}{o1 o2:Option Int}(K:W.Ok)(C:uK W D old)(hs:∀n∈ab,n∈W.data)(hl:(ab.length:Int)≤W.bb)(hv:∀n∈ab,au n=fin n)(hp:ab.Perm (mf.map (·.1)))(hn:∀n∈W.data,nw n=if n∈ab then fin n else old n)
 (ph:Phase W.af W.size au ab f S u){cs:List Int}(hc:∀x∈cs,0≤x∧x<(u.length:Int)):oN W fin old mf nw ab ((app (app {D with last:=o1,bl:=o2} S) (cf u)).ju.jN cs) (fA f cs) (bM f cs):=by
 law_purse 0 =>
 revert K C hs hl hv hp hn ph hc
 revert W D au fin old nw ab mf f S u o1 o2 cs
 rintro W D au fin old nw ab mf f S u o1:(_)
 rintro o2 cs:(_)
 intro K C hs hl hv hp hn ph hc
 have k1:=K.p0
 have k2:=K.l
 have hz:D.bk W.af=br [] W.size:=by rw[C.head,xV %[k1|k2]]
 have dn:∀ {n},n∈W.data→n≠W.af∧∀e∈d8 W.af au ab,e.1≠n:=fun {n} h=>by
  obtain⟨y1,y2,y3⟩:=eX.mp h;exact⟨fun e=>y3 ⟨%[|e],by exists k1,k2,e⟩,fun e he z=>by have:=uJ he;exact y3 ⟨%[z|this],by exists hl,k2,z,this⟩⟩
 have lk:∀e∈d8 W.af au ab,e.1≠W.af:=fun e he z=>by have:=uJ he;exists z,this
 have sn:W.af∉ab:=fun z=>(dn (hs _ z)).1 rfl
 have ln:∀ {i:Nat} {n},ab[i]?=some n→W.af+1+(i:Int)≠W.af∧W.af+1+(i:Int)∉ab:=fun {i n} h=>by
  have:=(List.getElem?_eq_some_iff.mp h).1;exact⟨by room,fun z=>by obtain⟨y1,y2,y3⟩:=eX.mp (hs _ z);exact y3 ⟨by room,by exists hl,k2,this⟩⟩
 have pk:∀ {n},n∉ab→∀e∈cy au ab,e.1≠n:=fun {n} h e he z=>h (z▸AL he)
 have pt:∀ {n i},n∉ab→∀e∈(cy au ab).take i,e.1≠n:=fun h e he=>pk h e (List.mem_of_mem_take he)
 have JB:∀n,({D with last:=o1,bl:=o2}:aE).tv n=D.bk n:=fun n=>(C.JA n).symm
 have g:∀ {S:List Op},(app {D with last:=o1,bl:=o2} S).bx=[]→∀n,(∀e∈u,e.1≠n)→((app (app {D with last:=o1,bl:=o2} S) (cf u)).ju.jN cs).bk n=c9 n S (D.bk n):=fun hu n h=>by
  rw[K2 hu h,wc,JB]
 have g0:∀ {S:List Op},(app {D with last:=o1,bl:=o2} S).bx=[]→cs=[]→∀n,((app (app {D with last:=o1,bl:=o2} S) (cf u)).ju.jN cs).bk n=c9 n S (D.bk n):=fun hu z n=>by
  rw[z,H9 hu,wc,JB]
 have u1:(app {D with last:=o1,bl:=o2} (S1 W.af au ab)).bx=[]:=mu _ _
 have u2:(app {D with last:=o1,bl:=o2} (S2 W.af W.size au ab)).bx=[]:=by
  unfold S2;rw[show([.wr W.af (br ab W.size),.fl]:List Op)=[.wr W.af (br ab W.size)]++[.fl]from rfl,← gq];exact mu _ _
 have u3:(app {D with last:=o1,bl:=o2} (S3 W.af W.size au ab)).bx=[]:=by
  unfold S3;rw[← gq];exact mu _ _
 have Ia:∀ {A:aE},bM f cs=false→fA f cs=false→A.bk W.af=D.bk W.af→(∀n∈W.data,A.bk n=D.bk n)→oN W fin old mf nw ab A (fA f cs) (bM f cs):=fun {A} e1 e2 e3 e4=>by
  rw[e1,e2];exact⟨hp,e3.trans hz,fun z=>(by cases z),fun n h=>by rw[aY (fun z=>by cases z.1),aY %[|0],e4 n h];exact C.data n h⟩
 have yJ:∀ {A:aE},bM f cs=true→fA f cs=true→A.bk W.af=br ab W.size→(∀(i:Nat) (n:Int),ab[i]?=some n→A.bk (W.af+1+i)=au n)→(∀n∈W.data,n∉ab→A.bk n=D.bk n)→oN W fin old mf nw ab A (fA f cs) (bM f cs):=fun {A} e1 e2 e3 e4 e5=>by
  rw[e1,e2];refine⟨hp,e3,fun _ i n h=>(e4 i n h).trans (hv n (eF h)),fun n h=>?_⟩;rw[bh rfl,hn n h];by_cases z:n∈ab
  ·rw[bh ⟨rfl,z⟩,bh z]
  rw[aY (fun y=>z y.2),aY z,e5 n h z];exact C.data n h
 have Oj:u=[]→cs=[]:=fun e=>by
  subst e;cases cs with
  |nil=>rfl
  |cons x r=>have:=hc x (gQ ..);simp only[length_nil]at this;(exfalso;revert this;room)
 cases ph with
 |p0 c =>
  have k:∀n,(∀e∈d8 W.af au ab,e.1≠n)→∀e∈(d8 W.af au ab).take c,e.1≠n:=fun n h e he=>h e (List.mem_of_mem_take he);exact Ia rfl rfl (g (S:=[]) C.bx _ (k _ lk)) fun n h=>g (S:=[]) C.bx _ (k _ (dn h).2)
 |Oc =>
  have z:=Oj rfl;subst z;exact Ia rfl rfl ((g0 u1 rfl _).trans (by rw[j9,c5 lk])) fun n h=>(g0 u1 rfl _).trans (by rw[j9,c5 (dn h).2])
 |Od =>
  by_cases z:cs=[]
  ·subst z;exact Ia rfl rfl ((g0 u1 rfl _).trans (by rw[j9,c5 lk])) fun n h=>(g0 u1 rfl _).trans (by rw[j9,c5 (dn h).2])
  have bF:cs.isEmpty=false:=by cases cs with|nil=>exact absurd rfl z|cons x r=>rfl
  have e1:bM 1 cs=true:=by unfold bM;rw[bF];rfl
  have e2:fA 1 cs=true:=by unfold fA;rw[bF];rfl
  have a:∀n,((app (app {D with last:=o1,bl:=o2} (S1 W.af au ab)) (cf [(W.af,br ab W.size)])).ju.jN cs).bk n=if n=W.af then br ab W.size else c9 n (S1 W.af au ab) (D.bk n):=fun n=>by
   rw[BX u1 z (fun x hx=>hc x hx),wc,JB]
  exact yJ e1 e2 ((a _).trans (bh rfl)) (fun i n h=>(a _).trans ((aY (ln h).1).trans (by rw[j9,oQ h]))) fun n h _=>(a _).trans ((aY (dn h).1).trans (by rw[j9,c5 (dn h).2]))
 |p2 i =>
  refine yJ rfl rfl ?_ (fun i n h=>?_) fun n h z=>?_
  ·exact(g u2 _ (pt sn)).trans (by rw[qS,bh rfl])
  ·exact(g u2 _ (pt (ln h).2)).trans (by rw[qS,aY (ln h).1,oQ h])
  exact(g u2 _ (pt z)).trans (by rw[qS,aY (dn h).1,c5 (dn h).2])
 |Oe =>
  have z:=Oj rfl;subst z;refine yJ rfl rfl ?_ (fun i n h=>?_) fun n h z=>?_
  ·exact(g0 u3 rfl _).trans (by rw[jf,bh rfl,c5 (pk sn)])
  ·exact(g0 u3 rfl _).trans (by rw[jf,aY (ln h).1,c5 (pk (ln h).2),oQ h])
  exact(g0 u3 rfl _).trans (by rw[jf,aY (dn h).1,c5 (pk z),c5 (dn h).2])
 |Of =>
  by_cases z:cs=[]
  ·subst z;refine yJ rfl rfl ?_ (fun i n h=>?_) fun n h z=>?_
   ·exact(g0 u3 rfl _).trans (by rw[jf,bh rfl,c5 (pk sn)])
   ·exact(g0 u3 rfl _).trans (by rw[jf,aY (ln h).1,c5 (pk (ln h).2),oQ h])
   exact(g0 u3 rfl _).trans (by rw[jf,aY (dn h).1,c5 (pk z),c5 (dn h).2])
  have bF:cs.isEmpty=false:=by cases cs with|nil=>exact absurd rfl z|cons x r=>rfl
  have e1:bM 3 cs=false:=by unfold bM;rw[bF];rfl
  have e2:fA 3 cs=true:=by unfold fA;rfl
  have a:∀n,((app (app {D with last:=o1,bl:=o2} (S3 W.af W.size au ab)) (cf [(W.af,br [] W.size)])).ju.jN cs).bk n=if n=W.af then br [] W.size else c9 n (S3 W.af W.size au ab) (D.bk n):=fun n=>by
   rw[BX u3 z (fun x hx=>hc x hx),wc,JB]
  rw[e1,e2];refine⟨hp,by rw[a,bh rfl];rfl,fun y=>(by cases y),fun n h=>?_⟩;rw[aY (fun y=>by cases y.1),bh rfl,hn n h,a,aY (dn h).1,jf,aY (dn h).1,c5 (dn h).2];by_cases y:n∈ab
  ·rw[bh y,wh y,hv n y]
  rw[aY y,c5 (pk y)];exact C.data n h
theorem K4{size:Int}:(cB af size au ab).length=2*ab.length+6:=by
 rw[xc]
 have h1:(cf (d8 af au ab)).length=ab.length:=by unfold cf;rw[bB,nV]
 have h2:(cf (cy au ab)).length=ab.length:=by unfold cf;rw[bB,nW]
 simp only[dv,gH,length_nil,h1,h2];room
theorem K5{af size:Int}{au:Int→bc}{ab:List Int}(hv:∀n∈ab,((au n).length:Int)=size)(h4:4*((ab.length:Int)+1)≤size){n:Int}{b:bc}(h:Op.wr n b∈cB af size au ab):(b.length:Int)=size:=by
 law_purse 0 =>
 revert hv h4 h
 revert af size au ab n b
 rintro af size au ab n:(_)
 rintro b:(_)
 intro hv h4 h
 have hw:∀u:bW,Op.wr n b∈cf u→(n,b)∈u:=fun u hu=>by
  obtain⟨e,he,q⟩:=gB hu;cases q;exact he
 rw[xc]at h
 simp only[mem_append,mem_cons,List.not_mem_nil,or_false,reduceCtorEq,false_or,Op.wr.injEq]at h
 rcases h with h|hK|h|hK
 ·have:=hw _ h;unfold d8 at this;refine Lake.ex1 (gB this) ?_;rintro p:(_);rintro⟨hp,q⟩:_;cases q;exact hv _ (eF (List.mem_zipIdx_iff_getElem?.mp hp))
 ·obtain⟨-,rfl⟩:=hK;exact oK ab h4
 ·have:=hw _ h;unfold cy at this;obtain⟨p,hp,q⟩:=gB this;cases q;exact hv _ hp
 obtain⟨-,rfl⟩:=hK
 exact oK [] (by show 4*(((0:Nat):Int)+1)≤size;exists h4)
theorem Ib{size:Int}{D:aE}{S:List Op}{u:bW}{w:Nat}(ok:D.Ok w)(hs:D.size=size)(hd:D.bx=[])(hv:∀n∈ab,((au n).length:Int)=size)(h4:4*((ab.length:Int)+1)≤size)(hm:ab.length≤4)(e:∃r,cB af size au ab=(S++cf u)++r)(hu:(app D S).bx=[]) :
  RV D (app (app D S) (cf u)) (fJ S+u.length) (ip S)∧(app (app D S) (cf u)).Ok (w+50)∧(app (app D S) (cf u)).bx=u:=by
 obtain⟨r,e⟩:=e
 have k:=lS (S++cf u) D
 rw[iU,gA,qb,mV,oS,iT]at k
 refine⟨k,?_,by rw[(wZ u _).1,hu];rfl⟩
 have:=Oa (S++cf u) ok fun n b h=>by rw[hs];exact K5 hv h4 (e▸ik r h)
 rw[iT]at this
 refine this.mono ?_
 have z:=congrArg List.length e
 rw[K4,dv]at z
 exists hm,z
theorem DP{size:Int}{D:aE}{f:Int}{S:List Op}{u:bW}(h:Phase af size au ab f S u)(hd:D.bx=[]):(app D S).bx=[]:=by
 have u2:(app D (S2 af size au ab)).bx=[]:=by
  unfold S2;rw[show([.wr af (br ab size),.fl]:List Op)=[.wr af (br ab size)]++[.fl]from rfl,← gq];exact mu _ _
 have u3:(app D (S3 af size au ab)).bx=[]:=by
  unfold S3;rw[← gq];exact mu _ _
 cases h with
 |p0 c=>exact hd
 |Oc=>exact mu _ _
 |Od=>exact mu _ _
 |p2 i=>exact u2
 |Oe=>exact u3
 |Of=>exact u3
theorem Gs{W:Wd}{D D':aE}{fin nw:Int→bc}(K:W.Ok)(C:uK W D old)(hs:∀n∈ab,n∈W.data)(hl:(ab.length:Int)≤W.bb)(hv:∀n∈ab,au n=fin n)(hn:∀n∈W.data,nw n=if n∈ab then fin n else old n)
 (h:bH D (cB W.af W.size au ab)=some D'):uK W D' nw∧D'.writes=D.writes+(2*ab.length+2)∧D'.bj=D.bj+4:=by
 have k1:=K.p0
 have k2:=K.l
 have hr:=AG (cB W.af W.size au ab) C.last C.bl
 have e:D'=app D (cB W.af W.size au ab):=by rw[hr]at h;exact(Option.some.inj h).symm
 have k:=lS (cB W.af W.size au ab) D
 rw[← e]at k
 have n1:fJ (cB W.af W.size au ab)=2*ab.length+2∧ip (cB W.af W.size au ab)=4:=by
  rw[uI,iU,gA,qR.1,qR.2];exact⟨rfl,rfl⟩
 rw[n1.1,n1.2]at k
 have dn:∀ {n},n∈W.data→n≠W.af∧∀e∈d8 W.af au ab,e.1≠n:=fun {n} h=>by
  obtain⟨y1,y2,y3⟩:=eX.mp h;exact⟨fun e=>y3 ⟨%[|e],by exists k1,k2,e⟩,fun e he z=>by have:=uJ he;exact y3 ⟨%[z|this],by exists hl,k2,z,this⟩⟩
 have lw:∀n v,c9 n (cB W.af W.size au ab) v=if n=W.af then br [] W.size else c9 n (S3 W.af W.size au ab) v:=fun n v=>by rw[uI,dU];rfl
 refine⟨⟨uG _ C.JA h,?_,k.cj.trans C.cj,k.last.trans C.last,k.bl.trans C.bl,k.aQ.trans C.aQ,k.size.trans C.size,?_,fun n hd=>?_⟩,k.writes,k.bj⟩
 ·rw[e,uI];rw[show S3 W.af W.size au ab++.wr W.af (br [] W.size)::[.fl]=(S3 W.af W.size au ab++[.wr W.af (br [] W.size)])++[.fl]by simp];exact mu _ _
 ·rw[iK _ _ h,lw,bh rfl,xV %[k1|k2]]
 rw[iK _ _ h,lw,aY (dn hd).1,jf,aY (dn hd).1,c5 (dn hd).2,hn n hd]
 by_cases y:n∈ab
 ·rw[bh y,wh y,hv n y]
 rw[aY y,c5 (fun e (he:e∈cy au ab) (z:e.1=n)=>y (z▸AL he))];exact C.data n hd
open JL
inductive qT(D:aE)(m:Int):List Int→Option Int→Option Int→Prop
 |no:qT D m [] none none
 |wr (c:Int) (h0:0≤c) (h1:c<2*m+2):qT D m [0,c,c,pB m c] (some (D.writes+c)) none
 |fl (c w:Int) (h:c=0∧w=m∨c=1∧w=m+1∨c=2∧w=2*m+1∨c=3∧w=2*m+2):qT D m [1,c,w,c] none (some (D.bj+c))
theorem aS.stop{o q:Nat}{c d:Addr}{w:Nat}{D:aE}{aJ:Act}{l lf:Option Int}(h:aS o q ay c d w D σ cnt aJ)(k:aF (fun y=>y=o) σ σ')(hD:bY σ' o d {D with last:=l,bl:=lf}):aS o q ay c d w {D with last:=l,bl:=lf} σ' cnt aJ:=by
 obtain⟨bF,hm,ok,-,bq,dx,r,bn,m1,m2,m3,es,dp,C,R⟩:=h
 exact⟨bF,hm,⟨ok.s0,ok.s1,ok.m,ok.w0,ok.f0,ok.lb,ok.kb,ok.ub⟩,hD,bq,dx,r,bn,m1,m2,m3,es,dp,C.only k bF.symm,⟨R.nd,R.len,fun x hx=>let k:=R.cK x hx;⟨k.n0,k.n1,k.len,k.h0,k.p0,k.clean⟩,R.aJ,R.cnt⟩⟩
theorem K6{a b:List Int}(ha:a.Nodup)(hb:b.Nodup)(h:∀n,n∈a↔n∈b):a.Perm b:=by
 rw[List.perm_iff_count]
 intro n
 rw[ha.count,hb.count]
 by_cases z:n∈a
 ·rw[bh z,bh ((h n).mp z)]
 rw[aY z,aY fun y=>z ((h n).mpr y)]
theorem qc{p:Prop}[Decidable p]:(0:Int)≤(if p then 1 else 0)∧(if p then 1 else 0)≤(1:Int):=by
 by_cases z:p
 ·rw[bh z];exact⟨by decide,fh _⟩
 rw[aY z];exact⟨fh _,by decide⟩
theorem qT.ends:∀ {D:aE} {cut:List Int} {l lf:Option Int} {af size:Int} {au:Int→bc} {ab:List Int} (h:qT D ab.length cut l lf),(cut=[]∧l=none∧lf=none)∨∃a1 a2 w fl,cut=[a1,a2,w,fl]∧0≤fl∧fl≤3∧AK af size au ab {D with last:=l,bl:=lf} w fl:=by
 law_purse 0 =>
 rintro D cut l lf af size au:(_)
 rintro ab:(_)
 w_up
 cases h with
 |no=>exact .inl ⟨rfl,rfl,rfl⟩
 |wr c h0 h1 =>
  refine .inr ⟨_,_,_,_,rfl,?_,?_,Og rfl rfl h0 h1⟩
  ·exact Int.add_nonneg (Int.add_nonneg qc.1 qc.1) qc.1
  exact Int.add_le_add (Int.add_le_add qc.2 qc.2) qc.2
 |fl c w h=>exact .inr ⟨_,_,_,_,rfl,%[|h],%[|h],Oh rfl rfl h⟩
theorem K7{a b c d:Int}{w:LV}{a' b' c' d':Int}{r:Bool}(h:xr k G σ v w r):if([.int a,.int b,.int c,.int d,v]:List LV).length=([.int a',.int b',.int c',.int d',w]:List LV).length then my k G σ [.int a,.int b,.int c,.int d,v] [.int a',.int b',.int c',.int d',w] ((a==a')&&((b==b')&&((c==c')&&((d==d')&&r))))else((a==a')&&((b==b')&&((c==c')&&((d==d')&&r))))=false:=by
 split
 ·exact⟨_,_,lK a a',⟨_,_,lK b b',⟨_,_,lK c c',⟨_,_,lK d d',⟨r,true,h,rfl,by simp⟩,rfl⟩,rfl⟩,rfl⟩,rfl⟩
 rename_i z;exact absurd rfl z
theorem Ic{a b c d:Int}{w:LV}{a' b' c' d':Int}(h1:a=a')(h2:b=b')(h3:c=c')(h4:d=d')(h:xr k G σ v w true):if([.int a,.int b,.int c,.int d,v]:List LV).length=([.int a',.int b',.int c',.int d',w]:List LV).length then my k G σ [.int a,.int b,.int c,.int d,v] [.int a',.int b',.int c',.int d',w] true else true=false:=by
 subst h1 h2 h3 h4
 have t:=K7 (a:=a) (b:=b) (c:=c) (d:=d) (a':=a) (b':=b) (c':=c) (d':=d) h
 rw[show((a==a)&&((b==b)&&((c==c)&&((d==d)&&true))))=true by simp]at t
 exact t
section
variable {G:Gd}{σ:St}{Q:LV→St→Prop}{ep:EP}{o q z:Nat}{c d j:Addr}{ay:Int}{D:aE}{w:Nat}{P:Nat→Prop}{W:Wd}
theorem Ol{D:aE}(h:D.last=none)(k:D.bl=none):({D with last:=none,bl:=none}:aE)=D∧(∀x,({D with last:=x,bl:=none}:aE)={D with last:=x})∧∀x,({D with last:=none,bl:=x}:aE)={D with bl:=x}:=by
 cases D
 have h:_=none:=h
 have k:_=none:=k
 subst h k
 exact⟨rfl,fun _=>rfl,fun _=>rfl⟩
theorem Uy{wa sa fa:Addr}{ts tf:Tag}{k hd:Int}{mf:bW}{df:Nat}{ds:List cO}{s':TS}{old fin nw:Int→bc}{cut:List Int}(pr:Pr G)(hb:qA G)(hT:σ 622=some ((7,0,0),.table "_law_done.<locals>.<lambda>"))(qd:σ 629=some ((7,1,0),.table "_law_open_right.<locals>.<lambda>"))
 (hW:je σ wa W)(es:σ sa=some (ts,.list [.ref c,.ref j]))(ef:σ fa=some (tf,.dict (aU mf) df))(hC:aS o q ay c d w D σ 0 (fun _=>none))(hJ:eU j c z σ {W.J with dQ:=k})(O:Own o q z)(ho:10≤o∧10≤q∧10≤z)(hm:ay=W.bb+4∨ay=W.bb+5∨ay=W.bb+6)
 (kU:ts.1≠o∧ts.1≠q∧ts.1≠z)(h9:tf.1≠o∧tf.1≠q∧tf.1≠z∧tf.1≠0)(jO:P 0)(eJ:P o)(eV:P q)(jP:P z)(hw:w≤6000)(K0:uK W D old)(hh:hd=0∨hd=1)
 (hF:mQ W mf)(hf:∀x∈mf,fin x.1=x.2)(mJ:1≤mf.length)(cU:(mf.length:Int)≤W.bb)
 (run:jH W ⟨old,[],0⟩ ds s')(r1:s'.aK=1)(r2:∀n,n∈s'.aA↔n∈mf.map (·.1))(r3:s'.aA.Nodup)(r4:∀n∈mf.map (·.1),s'.now n=fin n)(dX:ds.length≤1000)(sV:tE mf.length cut)(xW:∀n∈W.data,nw n=if n∈mf.map (·.1)then fin n else old n)
 (h1:cut=[]→∀σ' D' w',w'≤w+50→aF P σ σ'→aS o q ay c d w' D' σ' 0 (fun _=>none)→eU j c z σ' {W.J with dQ:=k+1}→uK W D' nw→Q (.str "whole") σ')
 (h2:∀a1 a2 a3 fl,cut=[a1,a2,a3,fl]→0≤fl∧fl≤3→∀σ' D',aF P σ σ'→gp σ' o q c d D'→D'.Ok (w+50)→D'.aQ=W.aQ→D'.size=W.size→(∀cs:List Int,(∀x∈cs,0≤x∧x<D'.bx.length)→oN W fin old mf nw s'.aA (D'.jN cs) (fA fl cs) (bM fl cs))→Q (.str "cut") σ') :
  CallT 14 b0 (.ref 639) G σ Q [.ref wa,.ref sa,.tup [.int hd,.fl (ds.map dC)],.ref fa,.fl (cut.map .int)]:=by
 law_purse 0 =>
 revert pr hb hT qd hW es ef hC hJ O ho hm kU h9 jO eJ eV jP hw K0 hh hF hf mJ cU run r1 r2 r3 r4 dX sV xW h1 h2
 revert G σ Q o q z c d j ay D w P W wa sa fa ts tf k hd mf df ds s' old fin nw cut
 rintro G σ Q o q z c d j ay D w P W wa sa fa ts tf k:(_)
 rintro hd mf df ds s' old fin nw cut:(_)
 intro pr hb hT qd hW es ef hC hJ O ho hm kU h9 jO eJ eV jP hw K0 hh hF hf mJ cU run r1 r2 r3 r4 dX sV xW h1 h2
 obtain⟨K,e1⟩:=id hW
 have k1:=K.p0
 have k2:=K.p1
 have k3:=K.s0
 have k4:=K.s1
 have k5:=K.l
 have k6:=K.b
 obtain⟨hl,he,dxj,l,nd,esj,RL,f1,f2,f3,f4⟩:=id hJ
 obtain⟨Ju,rc,bn,m1,m2,m3,ec⟩:=hC.cell
 obtain⟨I6,dk,dl,du,oH,oI,d1,d2,d3,d4⟩:=id hC.2.2.2.1
 wtm_at "fnS b0|world side telling final cut"
 rintro cx aa:(_)
 intro F1 F2 F3 F4
 lk
 refine yA (vs:=[.ref c,.ref j]) (.inl (.inr ⟨_,_,rfl,es⟩)) rfl rfl (by f_are) ?_
 lk
 refine oB ["writes","flushes","commits"] F4 F1 (by k_in) (by f_are) ?_
 lk
 refine xC rfl ?_
 refine mq (x:="commits") (v:=.int k) ?_
 repeat' ((fail_if_success (refine(?_:ST _ _ _ _ _ (exec (.If _ _ _ _) _))));back_in)
 refine yH (fun bt σ'=>bt "world"=some (.ref wa)∧bt "telling"=some (.tup [.int hd,.fl (ds.map dC)])∧bt "final"=some (.ref fa)∧bt "cut"=some (.fl (cut.map .int))∧bt "cache"=some (.ref c)∧bt "journal"=some (.ref j)∧bt "disk"=some (.ref d)∧bt "writes"=some (.int D.writes)∧bt "flushes"=some (.int D.bj)∧bt "commits"=some (.int k)∧
  ∃lm lf,qT D mf.length cut lm lf∧aF (fun y=>y=o) σ σ'∧aS o q ay c d w {D with last:=lm,bl:=lf} σ' 0 (fun _=>none)) ?_ ?_
 ·obtain⟨XB,rj,jc⟩:=Ol K0.last K0.bl;cases sV with
  |none =>
   lk;refine bu (fX (.inl (.inl rfl)) ?_);lk;refine bu (fX (.inl (.inl rfl)) ?_);lk;exact⟨rfl,rfl,rfl,rfl,rfl,rfl,rfl,rfl,rfl,rfl,none,none,.no,.refl _ _,by rw[XB];exact hC⟩
  |wr cc g0 g1 =>
   lk;refine bu (fX (.inl (.inl rfl)) ?_);lk;refine dD (v:=.int 0) (.inl (.inl rfl)) %[|0] %[|0] rfl ?_;lk;refine bu (fX (.inl (.inl rfl)) ?_);lk;refine dD (v:=.int cc) (.inl (.inl rfl)) %[|0] %[|0] rfl ?_;lk;refine aT (PJ (P:=fun y=>y=o) pr hC.2.2.2.1 rfl g0 fun hN o2 D2=>?_) rfl;lk;exact⟨rfl,rfl,rfl,rfl,rfl,rfl,rfl,rfl,rfl,rfl,_,_,.wr cc g0 g1,o2,hC.stop o2 (by rw[rj];exact D2)⟩
  |fl cc ww h =>
   lk;refine bu (fX (.inl (.inl rfl)) ?_);lk;refine dD (v:=.int 1) (.inl (.inl rfl)) %[|0] %[|0] rfl ?_;lk;refine dD (v:=.int cc) (.inl (.inl rfl)) %[|0] %[|0] rfl ?_;lk;refine aT (Ng (P:=fun y=>y=o) pr hC.2.2.2.1 rfl %[|h] fun hN o2 D2=>?_) rfl;lk;exact⟨rfl,rfl,rfl,rfl,rfl,rfl,rfl,rfl,rfl,rfl,_,_,.fl cc ww h,o2,hC.stop o2 (by rw[jc];exact D2)⟩
 rintro aC jb:(_)
 rintro⟨q1,q2,q3,q4,q5,q6,q7,q8,q9,tZ,lm,lf,hL,o1,C1⟩:_
 have J1:=hJ.only o1 O.zo
 have T1:=o1.at hT (by show ¬7=o;exists ho)
 have JC:=o1.at qd (by show ¬7=o;exists ho)
 have AE:=o1.at ef h9.1
 have W1:=o1.at e1 (by show ¬3=o;exists ho)
 lk
 refine aT (Qk (P:=fun y=>y=q∨y=z) pr hb T1 C1 J1 O ho K (.inl rfl) (.inr rfl) %[|hw] K0.cj %[|hm] K0.aQ K0.size rfl rfl rfl rfl rfl rfl hh run K0.data dX r3 fun hN aJ ad o2 C2 J2 T2 L2=>?_) rfl
 have Om:∀ {y},y≠q→y≠z→¬(y=q∨y=z):=fun h1 h2 h=>h.elim h1 h2
 have JD:=o2.at JC (Om (by show 7≠q;exists ho) (by show 7≠z;exists ho))
 have BY:=o2.at AE (Om h9.2.1 h9.2.2.1)
 have W2:=o2.at W1 (Om (by show 3≠q;exists ho) (by show 3≠z;exists ho))
 have DQ:=K6 r3 hF.nd r2
 have dY:s'.aA.length=mf.length:=by rw[DQ.length_eq,bB]
 lk
 refine aT (DN (P:=fun y=>y=q) (w:=w) (ay:=ay) (D:={D with last:=lm,bl:=lf}) (aJ:=aJ) (J:={{W.J with dQ:=k}with ab:=s'.aA,aK:=s'.aK}) pr hb JD ⟨K,W2⟩ C2 J2 O ho rfl %[|hw] K0.cj BY h9.2.1 hF DQ cU r1 rfl rfl rfl rfl %[|hm] K0.aQ (fun n hn=>L2.a0 n fun y=>hn ((r2 n).mp y)) (fun x hx=>?_) fun dP o3 C3 J3 T3=>?_) rfl
 ·rw[L2.cont (hF.e x hx).1,r4 _ (i3 hx),hf x hx]
 have AF:=o3.at BY h9.2.1
 have W3:=o3.at W2 (by show 3≠q;exists ho)
 obtain⟨I6,dk,dl,du,oH,oI,d1,d2,d3,d4⟩:=id C3.2.2.2.1
 lk
 refine bu ?_
 lk
 refine bu ?_
 lk
 refine bu ?_
 refine lL (.inl (.inl rfl)) (.inl (.inl rfl)) (AD (Bt (vs:=D.bx.map c7) (.inl (.inr ⟨_,_,rfl,d4⟩)) (.inl (.inl rfl)))) ?_
 have e0:(!((D.writes==D.writes)&&((D.bj==D.bj)&&(D.bx.map c7).isEmpty)))=false:=by rw[K0.bx];simp
 rw[e0]
 lk
 have xd:∀n∈s'.aA,n∈W.data∧s'.now n=fin n∧((s'.now n).length:Int)=W.size:=fun n hn=>by
  have hk:=(r2 n).mp hn;obtain⟨x,hx,rfl⟩:=gB hk;obtain⟨g1,g2⟩:=hF.e x hx;exact⟨g1,r4 _ hk,by rw[r4 _ hk,hf x hx];exact g2⟩
 have RX:yE {{W.J with dQ:=k}with ab:=s'.aA,aK:=s'.aK} {D with last:=lm,bl:=lf} aJ s'.now:=by
  refine⟨r3,fun n hn=>?_,L2.a0,?_,?_,k3,?_,?_⟩
  ·obtain⟨g1,g2,g3⟩:=xd n hn;obtain⟨y1,y2,y3⟩:=eX.mp g1;exact⟨y1,by show n<D.aQ;rw[K0.aQ];exact y2,%[k2,k5,k6|y2],by show _=D.size;rw[K0.size];exact g3,⟨ad n,L2.a1 n hn⟩,y3⟩
  ·show(s'.aA.length:Int)+1≤W.log;exists cU,k5,dY
  ·show 4*((s'.aA.length:Int)+1)≤D.size;rw[K0.size];exists cU,k5,dY
  ·show W.af+W.log≤D.aQ;rw[K0.aQ];exists k1,k4,k6
  show s'.aA.length<200;exists cU,k2,dY
 have oP:∀ {σ'},aF (fun y=>y=0∨y=o∨y=q∨y=z) dP σ'→aF P σ σ':=fun o4=>(((o1.mono (P':=P) fun y e=>e▸eJ).trans (o2.mono fun y e=>e.elim (fun e=>e▸eV) fun e=>e▸jP)).trans (o3.mono fun y e=>e▸eV)).trans (o4.mono fun y e=>e.elim (fun e=>e▸jO) fun e=>e.elim (fun e=>e▸eJ) fun e=>e.elim (fun e=>e▸eV) fun e=>e▸jP)
 have bF:s'.aA≠[]:=fun e=>by rw[e]at dY;simp at dY;exists mJ,dY
 rcases qT.ends (af:=W.af) (size:=D.size) (au:=s'.now) (ab:=s'.aA) (by rw[dY];exact hL)with⟨rfl,rfl,rfl⟩|⟨a1,a2,wq,fl,rfl,g0,g1,E1⟩
 ·refine aT (Gf (P:=fun y=>y=0∨y=o∨y=q∨y=z) (w:=w) (ay:=ay) (D:={D with last:=none,bl:=none}) (aJ:=aJ) (J:={{W.J with dQ:=k}with ab:=s'.aA,aK:=s'.aK}) pr C3 J3 O (.inl rfl) (.inr (.inl rfl)) (.inr (.inr (.inl rfl))) (.inr (.inr (.inr rfl))) r1 bF (by show w+6*s'.aA.length+20≤7000;exists hw,cU,k2,dY) K0.cj (by show(s'.aA.length:Int)<ay;exists hm,cU,dY) RX (fun D' dG w4 RY s6 o4 C4 J4=>?_) fun s6 dG o4 D4=>?_) rfl
  ·have s6:bH {D with last:=none,bl:=none} (cB W.af D.size s'.now s'.aA)=some D':=s6;have XC:({D with last:=none,bl:=none}:aE)=D:=(Ol K0.last K0.bl).1;rw[XC,K0.size]at s6
   obtain⟨C0,c1,c2⟩:=Gs (nw:=nw) (fin:=fin) K K0 (fun n hn=>(xd n hn).1) %[cU|dY] (fun n hn=>(xd n hn).2.1) (fun n hn=>by
    rw[xW n hn];by_cases y:n∈s'.aA
    ·rw[bh y,bh ((r2 n).mp y)]
    rw[aY y,aY fun z=>y ((r2 n).mpr z)]) s6
   have Oo:∀ {y},y≠0→y≠o→y≠q→y≠z→¬(y=0∨y=o∨y=q∨y=z):=fun g0 g1 g2 g3 h=>h.elim g0 fun h=>h.elim g1 fun h=>h.elim g2 g3;have Gu:=o4.at AF (Oo h9.2.2.2 h9.1 h9.2.1 h9.2.2.1);have W4:=o4.at W3 (Oo %[|0] (by show 3≠o;exists ho) (by show 3≠q;exists ho) (by show 3≠z;exists ho));obtain⟨XD,gk,gl,gu,XE,XF,g1,g2,g3,g4⟩:=id C4.2.2.2.1;obtain⟨hl4,he4,Xf,jl,jn,Xg,Xh,j1,j2,j3,j4⟩:=id J4;obtain⟨kW,XG,NW,NX,NY,NZ,RU⟩:=C4.cell;lk;refine bu (lQ (.inl (.inl rfl)) ?_);lk;refine gE (Q:=fun v σ'=>v=.fl (i8 [2*(mf.length:Int)+2,4])∧dG=σ') (lj ?_) ?_
   ·lk;refine bu (lQ (.inl (.inl rfl)) ?_);lk;refine oC Gu (by unfold aU;rw[bB];exists cU,k2) ?_;rw[show(aU mf).length=mf.length from bB ..];lk;refine bu ?_;exact⟨rfl,rfl⟩
   rintro _ dG ⟨rfl,rfl⟩:_;lk;refine bu ?_;lk;refine lL (.inl (.inl rfl)) (.inl (.inl rfl)) (qv [D'.writes-D.writes,D'.bj-D.bj] [2*(mf.length:Int)+2,4]) ?_;rw[c1,c2,dY];have e5:(!([D.writes+(2*(mf.length:Int)+2)-D.writes,D.bj+4-D.bj]==[2*(mf.length:Int)+2,4]))=false:=by rw[show D.writes+(2*(mf.length:Int)+2)-D.writes=2*(mf.length:Int)+2 by room,show D.bj+4-D.bj=4 by room];simp
   rw[e5];lk;refine bu (fX (.inl (.inl rfl)) ?_);lk;refine aT (DF pr J4 ?_) rfl;lk;refine aT (Jc pr C4 ?_) rfl;lk;refine bu ?_;lk;refine lj ?_;lk;refine bu ?_;lk;refine bu ?_;rw[C0.bx]at g4;refine qu (r:=true) (.inl (.inl rfl)) (.inl (.inl rfl)) (Ic rfl (by show W.bb-((0:Nat):Int)=W.bb;room) (by show k+1-k=1;room) (by show ay-((0:Nat):Int)=ay;room) (Bt (vs:=[]) (.inl (.inr ⟨_,_,rfl,g4⟩)) (.inl (.inl rfl)))) ?_;lk;exact h1 rfl dG D' w4 (by have:w4≤w+6*s'.aA.length+20:=RY;exists cU,k2,dY,this) (oP o4) C4 J4 C0
  exfalso;nomatch(AG _ rfl rfl),s6
 refine aT (Gf (P:=fun y=>y=0∨y=o∨y=q∨y=z) (w:=w) (ay:=ay) (D:={D with last:=lm,bl:=lf}) (aJ:=aJ) (J:={{W.J with dQ:=k}with ab:=s'.aA,aK:=s'.aK}) pr C3 J3 O (.inl rfl) (.inr (.inl rfl)) (.inr (.inr (.inl rfl))) (.inr (.inr (.inr rfl))) r1 bF (by show w+6*s'.aA.length+20≤7000;exists hw,cU,k2,dY) K0.cj (by show(s'.aA.length:Int)<ay;exists hm,cU,dY) RX (fun D' dG w4 RY s6 o4 C4 J4=>?_) fun s6 dG o4 D4=>?_) rfl
 ·exfalso;have:=E1.none;have s6:bH {D with last:=lm,bl:=lf} (cB W.af D.size s'.now s'.aA)=some D':=s6;nomatch this,s6
 obtain⟨S,u,ph,XH,n1,n2,n3⟩:=E1.ph
 have D4:gp dG o q c d (dN {D with last:=lm,bl:=lf} (cB W.af D.size s'.now s'.aA)):=D4
 rw[XH]at D4
 have XI:({D with last:=lm,bl:=lf}:aE).Ok w:=C3.2.2.1
 obtain⟨JE,xX,XJ⟩:=Ib XI rfl K0.bx (fun n hn=>by rw[K0.size];exact(xd n hn).2.2) (by rw[K0.size];exists cU,k5,dY) %[cU,k2|dY] n3 (DP ph K0.bx)
 obtain⟨XK,kW,cmo,WM,crr,NW,NX,NY,NZ,RU⟩:=id D4
 obtain⟨XD,gk,gl,gu,XE,XF,y1,y2,y3,y4⟩:=id XK
 lk
 refine bu (lQ (.inl (.inl rfl)) ?_)
 lk
 refine gE (Q:=fun v σ'=>v=.fl (i8 [wq,fl])∧dG=σ') (lj ?_) ?_
 ·lk;refine bu (lQ (.inl (.inl rfl)) ?_);lk;refine kL (x:=some 2) (y:=none) (.inl (.inl rfl)) rfl rfl (jy rfl) (bu ⟨rfl,rfl⟩)
 rintro _ dG ⟨rfl,rfl⟩:_
 lk
 refine bu ?_
 lk
 refine lL (.inl (.inl rfl)) (.inl (.inl rfl)) (qv [(app (app {D with last:=lm,bl:=lf} S) (cf u)).writes-D.writes,(app (app {D with last:=lm,bl:=lf} S) (cf u)).bj-D.bj] [wq,fl]) ?_
 have e5:(!([(app (app {D with last:=lm,bl:=lf} S) (cf u)).writes-D.writes,(app (app {D with last:=lm,bl:=lf} S) (cf u)).bj-D.bj]==[wq,fl]))=false:=by
  have y1:=JE.writes;have y2:=JE.bj;rw[n1]at y1;rw[n2]at y2;rw[show(app (app {D with last:=lm,bl:=lf} S) (cf u)).writes-D.writes=wq by rw[y1];show D.writes+wq-D.writes=wq;room,show(app (app {D with last:=lm,bl:=lf} S) (cf u)).bj-D.bj=fl by rw[y2];show D.bj+fl-D.bj=fl;room];simp
 rw[e5]
 lk
 refine bu (fX (.inl (.inl rfl)) ?_)
 lk
 refine h2 a1 a2 wq fl rfl ⟨g0,g1⟩ dG _ (oP o4) D4 ⟨xX.s0,xX.s1,xX.m,xX.w0,xX.f0,xX.lb,xX.kb,xX.ub⟩ (JE.aQ.trans K0.aQ) (JE.size.trans K0.size) fun cs Ob=>?_
 rw[K0.size]at ph
 refine Oi (o1:=lm) (o2:=lf) K K0 (fun n hn=>(xd n hn).1) %[cU|dY] (fun n hn=>(xd n hn).2.1) DQ (fun n hn=>?_) ph fun x hx=>?_
 ·rw[xW n hn];by_cases y:n∈s'.aA
  ·rw[bh y,bh ((r2 n).mp y)]
  rw[aY y,aY fun z=>y ((r2 n).mpr z)]
 have:=Ob x hx
 have e:(app (app {D with last:=lm,bl:=lf} S) (cf u)).ju.bx=u:=XJ
 rw[e]at this
 exact this
end
open JL
structure xe(W:Wd)(m:bW)(v:Int→bc):Prop where
 keys:m.map (·.1)=W.data
 e:∀n∈W.data,cq m n=some (v n)∧((v n).length:Int)=W.size
theorem Gv{m:bW}{k:Int}{b:bc}(h:k∈m.map (·.1)):(eB m k b).map (·.1)=m.map (·.1):=by
 unfold eB
 obtain⟨e,he,rfl⟩:=gB h
 rw[bh (any_eq_true.mpr ⟨e,he,ia rfl⟩),ey]
 refine map_congr_left fun x _=>?_
 show(if x.1=e.1 then(x.1,b)else x).1=x.1
 split<;>rfl
theorem Bl:∀ {l m:bW},(∀x∈l,x.1∈m.map (·.1))→(bS m l).map (·.1)=m.map (·.1):=by
 intro ll
 induction ll with
 |nil =>
  rintro _ _;exact rfl
 |cons p r ih =>
  rintro m h;show(bS (eB m p.1 p.2) r).map (·.1)=_;have k:=Gv (b:=p.2) (h p (gQ ..));rw[ih fun x hx=>by rw[k];exact h x (gb _ hx),k]
theorem RZ{a r:Int}(h:a+4≤r)(k:r≤a+6):r=a+4∨r=a+5∨r=a+6:=by
 rcases Int.lt_or_le r (a+5)with z|z
 ·exact .inl (Int.le_antisymm %[|z] h)
 rcases Int.lt_or_le r (a+6)with y|y
 ·exact .inr (.inl (Int.le_antisymm %[|y] z))
 exact .inr (.inr (Int.le_antisymm k y))
theorem AM:∀ {l m:bW} {n:Int} {b:bc},(l.map (·.1)).Nodup→(n,b)∈l→cq (bS m l) n=some b:=by
 intro l
 induction l with
 |nil=>intro _ _ _ _ h;cases h
 |cons p r ih =>
  intro m n b nd h;rw[ew,nodup_cons]at nd;show cq (bS (eB m p.1 p.2) r) n=_;rcases eb h with h|h
  ·subst h;rw[qP fun e (he:e∈r) z=>nd.1 (by have:=i3 (f:=(·.1)) he;rw[z]at this;exact this),js,bh rfl]
  exact ih nd.2 h
theorem DR{mo mf:bW}(nd:(mo.map (·.1)).Nodup):pM (aU mo++aU mf)=aU (bS mo mf):=by
 have h1:=mS (ps:=aU mo) (by unfold aU;rw[ey];exact nd)
 unfold pM at h1 ⊢
 rw[List.foldl_append,h1]
 have:∀(l m:bW),(aU l).foldl (fun aR p=>f9 aR p.1 p.2) (aU m)=aU (bS m l):=fun l=>by
  induction l with
  |nil=>intro m;rfl
  |cons p r ih =>
   intro m;show(aU r).foldl _ (f9 (aU m) p.1 (.bX p.2))=_;rw[kn];exact ih _
 exact this mf mo
theorem xe.put{W:Wd}{mo mf:bW}(h:xe W mo old)(hF:mQ W mf):xe W (bS mo mf) (fun n=>if n∈mf.map (·.1)then(cq mf n).getD []else old n):=by
 refine⟨(Bl fun x hx=>by rw[h.keys];exact(hF.e x hx).1).trans h.keys,fun n hn=>?_⟩
 by_cases z:n∈mf.map (·.1)
 ·obtain⟨x,hx,rfl⟩:=gB z;show _=some (if _ then _ else _)∧((if _ then _ else _:bc).length:Int)=_;rw[bh z,nU hF.nd hx,AM hF.nd hx];exact⟨rfl,(hF.e x hx).2⟩
 show _=some (if _ then _ else _)∧((if _ then _ else _:bc).length:Int)=_
 rw[aY z,qP fun e (he:e∈mf) (y:e.1=n)=>z (y▸i3 (f:=(·.1)) he)]
 exact h.e n hn
structure Gw(kc:Int)(w z q o:Nat)(D:aE)(j d c:Addr)(W:Wd)(v:Int→bc)(σ:St)(B r:Nat)(x:Addr)(i:Nat):Prop where
 s:σ x=some ((8+i,0,0),.list [.ref c,.ref j])
 C:aS o q (W.room i) c d w D σ 0 (fun _=>none)
 J:eU j c z σ {W.J with dQ:=kc}
 O:Own o q z
 oq:o≠q
 ro:100*(i+1)≤o∧o<100*(i+1)+r
 rq:100*(i+1)≤q∧q<100*(i+1)+r
 rz:100*(i+1)≤z∧z<100*(i+1)+r
 calm:uK W D v
 w:w≤B
noncomputable def fk(W:Wd)(v:Int→bc)(r B:Nat)(i:Nat)(x:Addr)(σ:St):Prop:=∃c d j D o q z w kc,Gw kc w z q o D j d c W v σ B r x i
noncomputable def inR(i:Nat)(y:Nat):Prop:=y=0∨(100*(i+1)≤y∧y<100*(i+1)+100)
noncomputable def jw(i:Nat)(y:Nat):Prop:=y=0∨y=1∨y=8+i∨(100*(i+1)≤y∧y<100*(i+1)+100)
theorem fk.only{W:Wd}{x:Addr}{v:Int→bc}{B r:Nat}{P:Nat→Prop}(h:fk W v r B i x σ)(k:aF P σ σ')(hr:r≤100)(h0:¬P (8+i))(h1:∀y,100*(i+1)≤y→y<100*(i+1)+100→¬P y):fk W v r B i x σ':=by
 obtain⟨c,d,j,D,o,q,z,w,kc,H⟩:=h
 exact⟨c,d,j,D,o,q,z,w,kc,k.at H.s h0,H.C.only k (h1 o H.ro.1 (by have:=H.ro.2;exists hr,this)) (h1 q H.rq.1 (by have:=H.rq.2;exists hr,this)),H.J.only k (h1 z H.rz.1 (by have:=H.rz.2;exists hr,this)),H.O,H.oq,H.ro,H.rq,H.rz,H.calm,H.w⟩
theorem fk.mono{x:Addr}{W:Wd}{v:Int→bc}{B B' r r':Nat}(h:fk W v r B i x σ)(hB:B≤B')(hr:r≤r'):fk W v r' B' i x σ:=by
 obtain⟨c,d,j,D,o,q,z,w,kc,H⟩:=h
 have h1:=H.ro
 have h2:=H.rq
 have h3:=H.rz
 have h4:=H.w
 exact⟨c,d,j,D,o,q,z,w,kc,H.s,H.C,H.J,H.O,H.oq,⟨h1.1,by exists hr,h1⟩,⟨h2.1,by exists hr,h2⟩,⟨h3.1,by exists hr,h3⟩,H.calm,by exists hB,h4⟩
structure Gx(W:Wd)(old fin:Int→bc)(mf:bW)(hd:Int)(ds:List cO)(s':TS):Prop where
 hh:hd=0∨hd=1
 run:jH W ⟨old,[],0⟩ ds s'
 r1:s'.aK=1
 r2:∀n,n∈s'.aA↔n∈mf.map (·.1)
 r3:s'.aA.Nodup
 r4:∀n∈mf.map (·.1),s'.now n=fin n
 len:ds.length≤1000
structure DS(ρ:Loc)(a wa:Addr)(s:Nat→Addr)(oa na fa:Addr)(wide:Bool)(T:List (Int×List cO×TS))(cut:List Int):Prop where
 q1:ρ "box"=some (.ref a)
 q2:ρ "world"=some (.ref wa)
 q3:ρ "sides"=some (.fl [.ref (s 0),.ref (s 1)])
 q4:ρ "old"=some (.ref oa)
 q5:ρ "new"=some (.ref na)
 q6:ρ "final"=some (.ref fa)
 q7:ρ "wide"=some (.bool wide)
 q8:ρ "tellings"=some (.fl (T.map fun x=>.tup [.int x.1,.fl (x.2.1.map dC)]))
 q9:ρ "cut"=some (.fl (cut.map .int))
theorem qU{s:Nat→Addr}(h:i<2):([.ref (s 0),.ref (s 1)]:List LV)[i]?=some (.ref (s i)):=by
 rcases i with _|_|i
 ·rfl
 ·rfl
 (exfalso;revert h;room)
section
variable {G:Gd}{σ:St}{Q:LV→St→Prop}{ep:EP}{P:Nat→Prop}{W:Wd}
theorem JF{wa x fa:Addr}{tf:Tag}{hd kc:Int}{mf:bW}{df:Nat}{ds:List cO}{s':TS}{fin nw:Int→bc}{cut:List Int}{B r:Nat}{c d j:Addr}{D:aE}{o q z w:Nat}(pr:Pr G)(hb:qA G)(hT:σ 622=some ((7,0,0),.table "_law_done.<locals>.<lambda>"))(qd:σ 629=some ((7,1,0),.table "_law_open_right.<locals>.<lambda>"))
 (hW:je σ wa W)(H:Gw kc w z q o D j d c W old σ B r x i)(hi:i<2)(hB:B≤3000)(hr:r≤100)(ef:σ fa=some (tf,.dict (aU mf) df))(h9:tf.1=4)(hF:mQ W mf)(hf:∀x∈mf,fin x.1=x.2)(mJ:1≤mf.length)(cU:(mf.length:Int)≤W.bb)(TO:Gx W old fin mf hd ds s')(sV:tE mf.length cut)(xW:∀n,nw n=if n∈mf.map (·.1)then fin n else old n)
 (h1:cut=[]→∀σ',aF (inR i) σ σ'→fk W nw r (B+50) i x σ'→Q (.str "whole") σ')
 (h2:∀a1 a2 a3 fl,cut=[a1,a2,a3,fl]→0≤fl→fl≤3→∀σ' D',aF (inR i) σ σ'→σ' x=some ((8+i,0,0),.list [.ref c,.ref j])→gp σ' o q c d D'→D'.Ok (B+50)→D'.aQ=W.aQ→D'.size=W.size→(∀cs:List Int,(∀x∈cs,0≤x∧x<D'.bx.length)→oN W fin old mf nw s'.aA (D'.jN cs) (fA fl cs) (bM fl cs))→Q (.str "cut") σ') :
  CallT 14 b0 (.ref 639) G σ Q [.ref wa,.ref x,.tup [.int hd,.fl (ds.map dC)],.ref fa,.fl (cut.map .int)]:=by
 law_purse 0 =>
 obtain⟨hs,hC,hJ,hO,NV,ro,rq,rz,calm,Oq⟩:=H
 have K:=hW.1
 have hm:W.room i=W.bb+4∨W.room i=W.bb+5∨W.room i=W.bb+6:=by
  unfold Wd.room;split
  ·exact RZ K.NH K.Rl
  exact RZ K.NI K.Rm
 have io:inR i o:=.inr %[hr|ro]
 have iq:inR i q:=.inr %[hr|rq]
 have iz:inR i z:=.inr %[hr|rz]
 have mI:∀y,(y=0∨y=o∨y=q∨y=z)→inR i y:=fun y h=>h.elim (fun e=>.inl e) fun h=>h.elim (fun e=>e▸io) fun h=>h.elim (fun e=>e▸iq) fun e=>e▸iz
 have iV:¬(8+i=0∨8+i=o∨8+i=q∨8+i=z):=by exists ro,rq,rz
 refine Uy (P:=fun y=>y=0∨y=o∨y=q∨y=z) (old:=old) (fin:=fin) (nw:=nw) pr hb hT qd hW hs ef hC hJ hO ⟨%[|ro],%[|rq],by exists rz⟩ hm ⟨by show 8+i≠o;(exists ro),by show 8+i≠q;(exists rq),by show 8+i≠z;exists rz⟩ ⟨%[h9|ro],%[h9|rq],%[h9|rz],by exists h9⟩ (.inl rfl) (.inr (.inl rfl)) (.inr (.inr (.inl rfl))) (.inr (.inr (.inr rfl))) %[hB|Oq] calm TO.hh hF hf mJ cU TO.run TO.r1 TO.r2 TO.r3 TO.r4 TO.len sV (fun n _=>xW n)
  (fun e σ' D' w' vZ o' C' J' K'=>h1 e σ' (o'.mono mI) ⟨c,d,j,D',o,q,z,w',_,o'.at hs iV,C',J',hO,NV,ro,rq,rz,K',by exists Oq,vZ⟩)
  fun a1 a2 a3 fl e mj σ' D' o' cj XM b' z' R'=>h2 a1 a2 a3 fl e mj.1 mj.2 σ' D' (o'.mono mI) (o'.at hs iV) cj (XM.mono %[|Oq]) b' z' R'
theorem Ot:∀ {a wa oa fa:Addr} {s:Nat→Addr} {kk:Int} {B r:Nat} {to tf:Tag} {mo mf:bW} {FY df:Nat} {old:Int→bc} {wide:Bool} (pr:Pr G) (hb:qA G) (hT:σ 622=some ((7,0,0),.table "_law_done.<locals>.<lambda>")) (qd:σ 629=some ((7,1,0),.table "_law_open_right.<locals>.<lambda>")) (hW:je σ wa W) (e:cb σ a kk) (hk:kk≤80000) (hB:B≤900) (hr:r≤50) (S:∀i,i<2→fk W old r B i (s i) σ) (qe:to.1=4) (h9:tf.1=4) (eo:σ oa=some (to,.dict (aU mo) FY)) (ef:σ fa=some (tf,.dict (aU mf) df)) (hV:xe W mo old) (hF:mQ W mf) (mJ:1≤mf.length) (cU:(mf.length:Int)≤W.bb) (hP:∀i,i<2→∀y,jw i y→P y) (F0:P 5) (h:∀na dn σ',aF P σ σ'→cb σ' a (kk+3000)→σ' na=some ((4,9,0),.dict (aU (bS mo mf)) dn)→(wide=true→∀i,i<2→fk W (fun n=>if n∈mf.map (·.1)then(cq mf n).getD []else old n) (r+10) (2*B+210) i (s i) σ')→Q (.ref na) σ'),CallT 15 b0 (.ref 659) G σ Q [.ref a,.ref wa,.fl [.ref (s 0),.ref (s 1)],.ref oa,.ref fa,.bool wide]:=by
 law_purse 0 =>
 revert G σ Q P W
 rintro G σ Q P W a wa oa fa s kk B r to tf mo mf FY df old:(_)
 rintro wide:(_)
 w_up
 obtain⟨K,e1⟩:=id hW
 have k1:=K.p0
 have k2:=K.p1
 have dX:=j8 K
 have kK:mo.length=W.data.length:=by have:=congrArg List.length hV.keys;rw[bB]at this;exact this
 have Ie:(aU mo).length=mo.length:=by unfold aU;rw[bB]
 have xf:(aU mf).length=mf.length:=by unfold aU;rw[bB]
 have fB:(mo.map (·.1)).Nodup:=by rw[hV.keys];exact pY W
 have Jq:P 1:=hP 0 %[|0] 1 (.inr (.inl rfl))
 have Ou:=hV.put hF
 have rT:∀x∈mf,(cq mf x.1).getD []=x.2:=fun x hx=>by rw[nU hF.nd hx];rfl
 generalize xW:(fun n=>if n∈mf.map (·.1)then(cq mf n).getD []else old n)=nw at Ou h
 generalize IP:(fun n=>(cq mf n).getD [])=fin at rT
 have Ov:∀n,nw n=if n∈mf.map (·.1)then fin n else old n:=fun n=>by rw[← xW,← IP]
 have rT:∀x∈mf,fin x.1=x.2:=fun x hx=>by rw[← IP];show(cq mf x.1).getD []=x.2;rw[nU hF.nd hx];rfl
 wtm_at "Zk b0 c|box world sides old final wide"
 rintro cx aa L:(_)
 intro F1 F2 F3 F4 F5 F6
 lk
 refine qw eo ?_
 lk
 refine lM eo %[k2,dX,kK|Ie] (bu ?_)
 lk
 refine qw ef ?_
 lk
 refine lM ef %[cU,k2|xf] (bu ?_)
 lk
 refine g8 (.inl rfl) (.inl rfl) (by unfold iE;simp only[bB];exists cU,k2,dX,kK,Ie,xf) (bu ?_)
 lk
 refine jr (ps:=aU mo++aU mf) (t':=(4,9,0)) (.inl (by unfold iE;rw[bZ])) (by rw[dv];exists cU,k2,dX,kK,Ie,xf) ?_
 rintro na dn:(_)
 intro kZ
 rw[DR fB]
 lk
 have Ax:=(av σ ((4,9,0),LO.dict (aU (bS mo mf)) dn) (neN eo kZ)).trans eo
 have AE:=(av σ ((4,9,0),LO.dict (aU (bS mo mf)) dn) (neN ef kZ)).trans ef
 have R0:=aI σ na ((4,9,0),LO.dict (aU (bS mo mf)) dn)
 have w1:=(av σ ((4,9,0),LO.dict (aU (bS mo mf)) dn) (neN e1 kZ)).trans e1
 have T1:=(av σ ((4,9,0),LO.dict (aU (bS mo mf)) dn) (neN hT kZ)).trans hT
 have T2:=(av σ ((4,9,0),LO.dict (aU (bS mo mf)) dn) (neN qd kZ)).trans qd
 have B1:=e.new (c:=((4,9,0),LO.dict (aU (bS mo mf)) dn)) kZ
 have o1:=(aF.refl P σ).ja (c:=((4,9,0),LO.dict (aU (bS mo mf)) dn)) kZ
 have S1:∀i,i<2→fk W old r B i (s i) (upd σ na ((4,9,0),LO.dict (aU (bS mo mf)) dn)):=fun i hi=>(S i hi).only ((aF.refl (fun _=>False) σ).ja kZ) %[|hr] id fun _ _ _=>id
 generalize upd σ na ((4,9,0),LO.dict (aU (bS mo mf)) dn)=jb at *
 clear kZ hT qd e eo ef S e1 hW
 refine IJ F1 F4 F5 (by f_are) (by k_in) (by k_in) (by intro _;with_unfolding_all rfl) ?_
 lk
 have lr:(bL 0 1 ((2:Int)).toNat).length=2:=iD
 refine mH %[|lr] (fun i aR ae=>∃xs:List (Int×List cO×TS),aR=xs.map (fun x=>.tup [.int x.1,.fl (x.2.1.map dC)])∧xs.length=i∧(∀x∈xs,Gx W old fin mf x.1 x.2.1 x.2.2)∧aF (fun y=>y=1∨y=5) jb ae∧cb ae a (kk+400*i)) ⟨[],rfl,rfl,fun x hx=>(by cases hx),.refl _ _,B1.mono (by room)⟩ ⟨?_,?_⟩
 ·rintro c' ij:(_);rintro G1 G5 i v aR ae hv - ⟨xs,rfl,xl,xk,o2,B2⟩:_;obtain⟨hi,rfl⟩:=fW hv;have hi:i<2:=hi;have ua:¬(to.1=1∨to.1=5)∧¬(tf.1=1∨tf.1=5)∧¬((3:Nat)=1∨(3:Nat)=5):=by exists qe,h9
  refine cL ?_;lk;refine aT (HX (P:=fun y=>y=1∨y=5) (old:=old) (fin:=fin) pr ⟨K,o2.at w1 ua.2.2⟩ B2 (.inl rfl) (.inr rfl) %[hk|hi] (o2.at Ax ua.1) (o2.at AE ua.2.1) ⟨%[|qe],by exists qe⟩ ⟨%[|h9],by exists h9⟩ fB %[k2,dX|kK] hV.e hF rT mJ cU fun hd ds s' dP t1 o3 B3 t2 t3 t4 t5 t6 t7 t8=>?_) rfl;refine⟨trivial,xs++[(hd,ds,s')],by rw[bZ];rfl,by rw[dv,xl];rfl,fun x hx=>?_,o2.trans o3,B3.mono (by push_cast;room)⟩;rcases eG hx with hx|hx
  ·exact xk x hx
  have:x=(hd,ds,s'):=dE hx;subst this;exact⟨t1,t2,t3,t4,t5,t6,t8⟩
 rintro aR ae - ⟨xs,rfl,xl,xk,o2,B2⟩:_
 rw[lr]at xl B2
 refine bu fun its=>?_
 have ua:¬(to.1=1∨to.1=5)∧¬(tf.1=1∨tf.1=5)∧¬((3:Nat)=1∨(3:Nat)=5)∧¬((4:Nat)=1∨(4:Nat)=5)∧¬((7:Nat)=1∨(7:Nat)=5):=by exists qe,h9
 have R3:=o2.at Ax ua.1
 have BY:=o2.at AE ua.2.1
 have R4:=o2.at R0 ua.2.2.2.1
 have w2:=o2.at w1 ua.2.2.1
 have JC:=o2.at T1 ua.2.2.2.2
 have JD:=o2.at T2 ua.2.2.2.2
 have S2:∀i,i<2→fk W old r B i (s i) ae:=fun i hi=>(S1 i hi).only o2 %[|hr] (by room) fun y h1 h2=>by exists h1
 lk
 refine oC BY %[cU,k2|xf] ?_
 lk
 refine aT (Uo (P:=fun y=>y=1) pr B2 rfl %[|hk] %[mJ,cU,k2|xf] fun cut dP o3 B3 sV=>?_) rfl
 rw[xf]at sV
 lk
 have XN:=o3.at R3 %[|qe]
 have AF:=o3.at BY %[|h9]
 have R6:=o3.at R4 %[|0]
 have w3:=o3.at w2 %[|0]
 have Gy:=o3.at JC %[|0]
 have Gz:=o3.at JD %[|0]
 have S3:∀i,i<2→fk W old r B i (s i) dP:=fun i hi=>(S2 i hi).only o3 %[|hr] (by room) fun y h1 h2=>by exists h1
 have XO:aF P σ dP:=(o1.trans (o2.mono fun y e=>e.elim (fun e=>e▸Jq) fun e=>e▸F0)).trans (o3.mono fun y e=>e▸Jq)
 clear S1 S2 R3 BY R4 w2 JC JD Ax AE R0 w1 T1 T2 o1 o2 o3 B1 B2
 refine gW F2 (by intro _;with_unfolding_all rfl) ?_
 lk
 refine gV (fun i bt σ'=>DS bt a wa s oa na fa wide xs cut∧aF (fun y=>jw 0 y∨jw 1 y) dP σ'∧cb σ' a (kk+900+1000*i)∧∀y,y<2→if y<i then(wide=true→fk W nw (r+10) (2*B+210) y (s y) σ')else fk W old r B y (s y) σ') ⟨⟨rfl,rfl,rfl,rfl,rfl,rfl,rfl,rfl,rfl⟩,.refl _ _,B3.mono (by room),fun y hy=>by rw[aY (by room)];exact S3 y hy⟩ ⟨?_,?_⟩
 ·rintro its i v aC dG hv - ⟨⟨q1,q2,q3,q4,q5,q6,q7,q8,q9⟩,o4,B4,S4⟩:_;obtain⟨hi,rfl⟩:=fW hv;have hi:i<2:=hi;have e0:(0:Int)+(i:Int)*1=i:=by room
  rw[e0];have BZ:∀ {y:Nat},y=3∨y=4∨y=7→¬(jw 0 y∨jw 1 y):=fun {y} h z=>by unfold jw at z;exists h,z
  have XQ:=o4.at XN (BZ %[|qe]);have Gu:=o4.at AF (BZ %[|h9]);have Ow:=o4.at R6 (BZ %[|0]);have w4:=o4.at w3 (BZ %[|0]);have Ca:=o4.at Gy (BZ %[|0]);have Cb:=o4.at Gz (BZ %[|0]);have R7:=S4 i hi;rw[aY (by room)]at R7;obtain⟨c,d,j,D,o,q,z,w,kc,H⟩:=R7;obtain⟨X,R8⟩:∃x,xs[i]?=some x:=⟨_,List.getElem?_eq_getElem %[xl|hi]⟩;have TO:=xk _ (eF R8);refine cL (Nf F1 %[|0] ?_);refine sr (fun bt σ'=>DS bt a wa s oa na fa wide xs cut∧bt "k"=some (.int i)∧aF (inR i) dG σ'∧((bt "told"=some (.str "whole")∧fk W nw r (B+50) i (s i) σ')∨∃a1 a2 a3 fl D',cut=[a1,a2,a3,fl]∧0≤fl∧fl≤3∧bt "told"=some (.str "cut")∧σ' (s i)=some ((8+i,0,0),.list [.ref c,.ref j])∧gp σ' o q c d D'∧D'.Ok (B+50)∧D'.aQ=W.aQ∧D'.size=W.size∧∀cs:List Int,(∀x∈cs,0≤x∧x<D'.bx.length)→oN W fin old mf nw X.2.2.aA (D'.jN cs) (fA fl cs) (bM fl cs))) ?_ ?_
  ·lk;refine dD (v:=.ref (s i)) (.inl (.inl rfl)) (wi i) %[|hi] (by rw[rB];exact qU hi) ?_;lk;refine dD (v:=.tup [.int X.1,.fl (X.2.1.map dC)]) (.inl (.inl rfl)) (wi i) %[|hi] (by rw[rB,List.getElem?_map,R8];rfl) ?_;lk;refine aT (JF (old:=old) (fin:=fin) (nw:=nw) pr hb Ca Cb ⟨K,w4⟩ H hi %[|hB] %[|hr] Gu h9 hF rT mJ cU TO sV Ov (fun z1 iZ o5 S5=>?_) fun a1 a2 a3 fl z1 z2 z3 iZ D' o5 x5 D5 Ox b5 Oy R5=>?_) rfl
   ·lk;exact⟨⟨by k_ne,by k_ne,by k_ne,by k_ne,by k_ne,by k_ne,by k_ne,by k_ne,by k_ne⟩,by k_ne,o5,.inl ⟨by k_ne,S5⟩⟩
   lk;exact⟨⟨by k_ne,by k_ne,by k_ne,by k_ne,by k_ne,by k_ne,by k_ne,by k_ne,by k_ne⟩,by k_ne,o5,.inr ⟨a1,a2,a3,fl,D',z1,z2,z3,by k_ne,x5,D5,Ox,b5,Oy,R5⟩⟩
  clear q1 q2 q3 q4 q5 q6 q7 q8 q9;rintro cz iZ ⟨⟨q1,q2,q3,q4,q5,q6,q7,q8,q9⟩,tZ,o5,fP⟩:_;have uL:∀ {y:Nat},y=1∨y=3∨y=4∨y=7→¬inR i y:=fun {y} h z=>by unfold inR at z;exists h,z
  have R9:=o5.at XQ (uL %[|qe]);have Sa:=o5.at Gu (uL %[|h9]);have Sb:=o5.at Ow (uL %[|0]);have w5:=o5.at w4 (uL %[|0]);have GA:=o5.at Ca (uL %[|0]);have GB:=o5.at Cb (uL %[|0]);have B5:=B4.only o5 (uL %[|0]);have XR:∀y,inR i y→jw i y:=fun y z=>by unfold inR at z;unfold jw;exists z
  have o5:=o5.mono XR
  repeat' ((fail_if_success (refine(?_:ST _ _ _ _ _ (exec (.If _ _ _ _) _))));back_in)
  refine yH (fun bt σ'=>DS bt a wa s oa na fa wide xs cut∧bt "k"=some (.int i)∧aF (jw i) dG σ'∧cb σ' a (kk+900+1000*(i+1))∧∃told:Str,bt "told"=some (.str told)∧((told="whole"∨told="new")∧fk W nw (r+4) (2*B+160) i (s i) σ'∨told="old"∧fk W old (r+4) (2*B+160) i (s i) σ')) ?_ ?_
  ·rcases fP with hK|hK
   ·obtain⟨wb,S5⟩:=hK;lk;exact⟨⟨q1,q2,q3,q4,q5,q6,q7,q8,q9⟩,tZ,o5,B5.mono (by push_cast;room),_,wb,.inl ⟨.inl rfl,S5.mono (by room) (by room)⟩⟩
   obtain⟨a1,a2,a3,fl,D',rfl,z2,z3,wb,x5,D5,Ox,b5,Oy,R5⟩:=hK;lk;refine dD (v:=.ref (s i)) (.inl (.inl rfl)) (wi i) %[|hi] (by rw[rB];exact qU hi) ?_;lk;refine dD (v:=.int fl) (.inl (.inl rfl)) %[|0] %[|0] rfl ?_;lk;have ro:=H.ro;have rq:=H.rq
   refine aT (DK (P:=jw i) (o2:=100*(i+1)+r) (q2:=100*(i+1)+r+1) (z2:=100*(i+1)+r+2) (w:=B+50) (fin:=fin) (old:=old) (nw:=nw) (ab:=X.2.2.aA) (mn:=bS mo mf) pr ⟨K,w5⟩ B5 %[hk|hi] %[|hi] x5 D5 Ox %[|hB] b5 Oy R9 Sb Sa ⟨by room,by room,by room,by room,by room⟩ (by room) (fun x hx=>by
    show x≠o∧x≠q∧10≤x∧x≠8+i∧x≠to.1∧x≠4∧x≠tf.1;exists qe,h9,ro,rq,hx) (by
    show 8+i≠1∧8+i≠0∧to.1≠1∧to.1≠0∧(4:Nat)≠1∧(4:Nat)≠0∧tf.1≠1∧tf.1≠0∧8+i≠3∧8+i≠to.1∧8+i≠4∧8+i≠tf.1;exists qe,h9) %[ro|rq] (.inl rfl) (.inr (.inl rfl)) (.inr (.inr (.inl rfl))) (.inr (.inr (.inr %[|hr]))) (.inr (.inr (.inr %[|hr]))) (.inr (.inr (.inr %[|hr]))) ⟨z2,z3⟩ hF rT mJ cU (fun n hn=>(hV.e n hn).1) (fun n hn=>(Ou.e n hn).1) R5 (fun b c' j' d' D6 w6 i2 XS o6 B6 x6 C6 J6 b6 z6 XT l6 XU u6 XW h6 Sd=>?_)) rfl
   have mk:∀v,(∀n∈W.data,D6.bk n=v n)→fk W v (r+4) (2*B+160) i (s i) i2:=fun v hv=>⟨c',d',j',D6,_,_,_,w6,0,x6,C6,J6,⟨by room,by room,by room,by room,by room⟩,by room,⟨by room,by room⟩,⟨by room,by room⟩,⟨by room,by room⟩,⟨XW,u6,XT,l6,XU,b6,z6,h6,hv⟩,by exists XS⟩;lk;refine⟨⟨by k_ne,by k_ne,by k_ne,by k_ne,by k_ne,by k_ne,by k_ne,by k_ne,by k_ne⟩,by k_ne,o5.trans o6,B6.mono (by push_cast;room),_,by k_ne,?_⟩;cases b with
   |true=>exact .inl ⟨.inr rfl,mk nw Sd⟩
   |false=>exact .inr ⟨rfl,mk old Sd⟩
  clear fP q1 q2 q3 q4 q5 q6 q7 q8 q9 tZ o5 B5 R9 Sa Sb w5 GA GB;rintro qr i2 ⟨⟨q1,q2,q3,q4,q5,q6,q7,q8,q9⟩,tZ,o6,B6,told,wb,fP⟩:_;have uM:∀ {y:Nat},y=3∨y=4∨y=7→¬jw i y:=fun {y} h z=>by unfold jw at z;exists h,z
  have Se:=o6.at Gu (uM %[|h9]);have XX:=o6.at Ow (uM %[|0]);have w6:=o6.at w4 (uM %[|0]);have JG:=o6.at Ca (uM %[|0]);have JH:=o6.at Cb (uM %[|0])
  repeat' ((fail_if_success (refine(?_:ST _ _ _ _ _ (exec (.If _ _ _ _) _))));back_in)
  refine yH (fun bt σ'=>DS bt a wa s oa na fa wide xs cut∧bt "k"=some (.int i)∧aF (jw i) dG σ'∧cb σ' a (kk+900+1000*(i+1))∧∃told:Str,bt "told"=some (.str told)∧((told="whole"∨told="new")∧fk W nw (r+10) (2*B+210) i (s i) σ'∨told="old"∧wide=false)) ?_ ?_
  ·rcases fP with hK|hK
   ·obtain⟨hL,S6⟩:=hK;rcases hL with rfl|rfl
    ·lk;exact⟨⟨q1,q2,q3,q4,q5,q6,q7,q8,q9⟩,tZ,o6,B6,_,wb,.inl ⟨.inl rfl,S6.mono (by room) (by room)⟩⟩
    lk;exact⟨⟨q1,q2,q3,q4,q5,q6,q7,q8,q9⟩,tZ,o6,B6,_,wb,.inl ⟨.inr rfl,S6.mono (by room) (by room)⟩⟩
   obtain⟨rfl,S6⟩:=hK;cases wide with
   |false =>
    lk;exact⟨⟨q1,q2,q3,q4,q5,q6,q7,q8,q9⟩,tZ,o6,B6,_,wb,.inr ⟨rfl,rfl⟩⟩
   |true =>
    obtain⟨c',d',j',D6,o',q',z',w',XY,H6⟩:=S6;obtain⟨Y,tU⟩:∃x,xs[1-i]?=some x:=⟨_,List.getElem?_eq_getElem (by(have w0:=Ln.fS (1) (i);revert xl w0;room))⟩;have XZ:=xk _ (eF tU);lk;refine dD (v:=.ref (s i)) (.inl (.inl rfl)) (wi i) %[|hi] (by rw[rB];exact qU hi) ?_;lk;refine dD (v:=.tup [.int Y.1,.fl (Y.2.1.map dC)]) (.inl (.inl rfl)) %[|hi] (by room) (by rw[show((1:Int)-(i:Int)).toNat=1-i by(have w0:=Ln.fT (1 - ↑i);have w1:=Ln.fS (1) (i);revert w0 w1;room),List.getElem?_map,tU];rfl) ?_;lk;refine bu ?_;lk;refine aT (JF (old:=old) (fin:=fin) (nw:=nw) (cut:=[]) pr hb JG JH ⟨K,w6⟩ H6 hi %[|hB] %[|hr] Se h9 hF rT mJ cU XZ .none Ov (fun z1 sI o7 S7=>?_) fun a1 a2 a3 fl z1=>(by cases z1)) rfl;have B7:=B6.only o7 (by unfold inR;room);lk;exact⟨⟨by k_ne,by k_ne,by k_ne,by k_ne,by k_ne,by k_ne,by k_ne,by k_ne,by k_ne⟩,by k_ne,o6.trans (o7.mono fun y z=>by unfold inR at z;unfold jw;exists z),B7,_,by k_ne,.inl ⟨.inl rfl,S7.mono (by room) (by room)⟩⟩
  clear fP q1 q2 q3 q4 q5 q6 q7 q8 q9 tZ wb o6 B6 Se XX w6 JG JH;rintro jo sI ⟨⟨q1,q2,q3,q4,q5,q6,q7,q8,q9⟩,tZ,o7,B7,told,wb,fP⟩:_;have X0:=o7.at Ow (uM %[|0]);have w7:=o7.at w4 (uM %[|0])
  have Oz:(wide=true→fk W nw (r+10) (2*B+210) i (s i) sI)→∀y,y<2→if y<i+1 then(wide=true→fk W nw (r+10) (2*B+210) y (s y) sI)else fk W old r B y (s y) sI:=fun hS y hy=>by
   have h4:=S4 y hy;by_cases e:y=i
   ·subst y;rw[bh (by room)];exact hS
   have n1:¬jw i (8+y):=by unfold jw;exists hy,e
   have n2:∀x,100*(y+1)≤x→x<100*(y+1)+100→¬jw i x:=fun x h1 h2 z=>by unfold jw at z;exists hi,e,h1,h2,z
   by_cases l:y<i
   ·rw[bh l]at h4;rw[bh %[|l]];exact fun hw=>(h4 hw).only o7 %[|hr] n1 n2
   rw[aY l]at h4;rw[aY %[e|l]];exact h4.only o7 %[|hr] n1 n2
  have Sf:aF (fun y=>jw 0 y∨jw 1 y) dP sI:=o4.trans (o7.mono fun y z=>by
   rcases i with _|_|i
   ·exact .inl z
   ·exact .inr z
   (exfalso;revert hi;room))
  rcases fP with hK|hK
  ·obtain⟨ht,S7⟩:=hK;have g:=Oz fun _=>S7;obtain⟨c',d',j',D6,o',q',z',w',XY,H7⟩:=S7;have hs7:=H7.s;obtain⟨kW,XG,NW,NX,NY,NZ,ec7⟩:=H7.C.cell;have X2:=H7.w;have t1:(told==("wrong" : Str))=false:=by rcases ht with rfl|rfl<;>rfl
   have t2:(told != ("old" : Str))=true:=by rcases ht with rfl|rfl<;>rfl
   lk;refine dD (v:=.ref (s i)) (.inl (.inl rfl)) (wi i) %[|hi] (by rw[rB];exact qU hi) ?_;lk;refine aT (Jo pr ⟨K,w7⟩ H7.C.2.2.2.1 X0 H7.calm.cj H7.C.2.2.1 %[hB|X2] H7.calm.aQ H7.calm.size (fun n hn=>by rw[H7.calm.data n hn];exact(Ou.e n hn).1) H7.calm.head H7.calm.bx ?_) rfl;lk;exact⟨trivial,⟨q1,q2,q3,q4,q5,q6,q7,q8,q9⟩,Sf,B7.mono (by push_cast;room),g⟩
  obtain⟨rfl,X3⟩:=hK;lk;exact⟨trivial,⟨q1,q2,q3,q4,q5,q6,q7,q8,q9⟩,Sf,B7.mono (by push_cast;room),Oz fun z=>by nomatch X3,z⟩
 rintro aC dG - ⟨⟨q1,q2,q3,q4,q5,q6,q7,q8,q9⟩,o4,B4,S4⟩:_
 have lr:(bL 0 1 ((2:Int)).toNat).length=2:=iD
 rw[lr]at B4 S4
 lk
 refine h na dn dG (XO.trans (o4.mono fun y e=>e.elim (hP 0 %[|0] y) (hP 1 %[|0] y))) (B4.mono (by push_cast;room)) (o4.at R6 (by unfold jw;room)) fun hw i hi=>?_
 have:=S4 i hi
 rw[bh hi]at this
 exact this hw
end
open JL
noncomputable def v0(W:Wd)(n:Int):bc:=List.replicate W.size.toNat (n+1).toNat.toUInt8
noncomputable def m0(W:Wd):bW:=W.data.map fun n=>(n,v0 W n)
theorem Qm(W:Wd)(K:W.Ok):xe W (m0 W) (v0 W):=by
 have hs:0≤W.size:=by have q1:=K.p0;have q2:=K.l;exists q1,q2
 have hk:(m0 W).map (·.1)=W.data:=by unfold m0;rw[ey];exact List.map_id _
 refine⟨hk,fun n hn=>⟨?_,by unfold v0;rw[rC];(have w0:=Ln.fT (W.size);revert hs w0;room)⟩⟩
 exact nU (m:=m0 W) (x:=(n,v0 W n)) (by rw[hk];exact pY W) (i3 (f:=fun n=>(n,v0 W n)) hn)
theorem Ig(k:Nat)(x:Int):mA (List.replicate k x)=List.replicate k x.toNat.toUInt8:=by unfold mA;rw[List.map_replicate]
theorem Qn:∀ {W:Wd} {D:aE} {v:Int→bc} (K:W.Ok) (h:bH (aE.new W.aQ W.size) (cQ v W.data++[.fl])=some D),uK W D v:=by
 rintro W D v:(_)
 w_up
 have S:=eK _ h
 have JA:D.mK:=uG _ (fun _=>rfl) h
 have dn:∀ {n},n∈W.data→n≠W.af:=fun {n} hn e=>by
  obtain⟨y1,y2,y3⟩:=eX.mp hn;have:=K.l;have:=K.p0;exact y3 ⟨%[|e],by omega⟩
 refine⟨JA,?_,S.cj,S.last,S.bl,S.aQ,S.size,?_,fun n hn=>?_⟩
 ·rw[cN]at h;cases q:bH (aE.new W.aQ W.size) (cQ v W.data)with
  |none=>nomatch q,h
  |some D1 =>
   rw[q]at h;have h:bH D1 [.fl]=some D:=h
   first|rw[ej]at h|rw[ek]at h
   split at h
   ·cases h
   cases h;rfl
 ·rw[iK _ _ h,dU];show c9 W.af (cQ v W.data) _=_
  rw[jd (fun k b y=>by
   obtain⟨m,hm,e⟩:=gB y;cases e;exact(dn hm).symm)]
  rfl
 rw[iK _ _ h,dU]
 exact oM hn _
noncomputable def Cc:Nat→Nat
 |0=>200
 |1=>650
 |_=>2000
theorem GC(h:i<2):Cc i≤900∧2*Cc i+210≤Cc (i+1):=by
 rcases i with _|_|i
 ·decide
 ·decide
 exists h
section
variable {G:Gd}{σ:St}{Q:LV→St→Prop}{ep:EP}
theorem Uz:∀ {ns:List Int} {u:LV} (hu:∀σ,g7 σ u (ns.map .int)) (pr:Pr G) (hb:qA G) (hT:σ 622=some ((7,0,0),.table "_law_done.<locals>.<lambda>")) (qd:σ 629=some ((7,1,0),.table "_law_open_right.<locals>.<lambda>")) (hz:ns.length≤1000) (h:∀σ',σ' 622=some ((7,0,0),.table "_law_done.<locals>.<lambda>")→σ' 629=some ((7,1,0),.table "_law_open_right.<locals>.<lambda>")→Q (.bool true) σ'),CallT 17 b0 (.ref 664) G σ Q [u]:=by
 law_purse 0 =>
 revert G σ Q
 rintro G σ Q ns u:(_)
 w_up
 have lp:(ns.map LV.int).length=ns.length:=bB ..
 wtm_at "Zk b0 c|script"
 rintro cx aa L:(_)
 intro F1 F2 F3 F4 F5 F6
 refine mP (oB ["box","wide"] F4 F1 (by k_in) (by f_are) ?_)
 lk
 refine gE (Q:=fun v σ'=>∃ms:List Int,g7 σ v (ms.map .int)∧ms.length≤1000∧σ=σ') (lj ?_) ?_
 ·lk;refine bu (fX (hu _) ?_);lk
  ·exact⟨ns,hu _,hz,rfl⟩
  refine bu ?_;exact⟨[7563782069866615449801239114180],.inl (.inl rfl),by decide,rfl⟩
 rintro _ _ ⟨ms,hl,X4,rfl⟩:_
 lk
 refine aT (Ul (P:=fun y=>y=1) pr hl rfl X4 ?_) rfl
 rintro a jb:(_)
 intro o1 B1
 lk
 refine nE (hu _) %[hz|lp] ?_
 rw[lp]
 lk
 generalize decide ((1:Int)<(ns.length:Nat))=wide
 refine xC rfl ?_
 refine mq (x:="wide") (v:=.bool wide) ?_
 lk
 refine aT (NJ (P:=fun y=>y=1∨y=3) pr (.inl rfl) (.inr rfl) B1 (by room) ?_) rfl
 rintro wa W hN:(_)
 intro o2 B2 W2
 have K:=W2.1
 have w2:=W2.2
 have k1:=K.p0
 have k2:=K.p1
 have k3:=K.s0
 have k5:=K.l
 have k6:=K.b
 have dX:=j8 K
 have qN:(W.data.map LV.int).length=W.data.length:=bB ..
 lk
 refine ri F1 F4 F5 (by f_are) (by k_in) (by intro _;with_unfolding_all rfl) (tR rfl ?_)
 lk
 refine px (mH %[k2,dX|qN] (fun i aR ae=>hN=ae∧aR=iE (aU ((m0 W).take i))) ⟨rfl,rfl⟩ ⟨?_,?_⟩)
 ·rintro c' ij:(_);rintro G1 G5 i v aR ae iG - ⟨rfl,rfl⟩:_;obtain⟨n,hn,rfl⟩:=dj iG;obtain⟨x1,x2,x3⟩:=eX.mp (eF hn);refine cL ?_;lk;refine bu ?_;lk;refine r7 (.inl rfl) (jy rfl) %[k2|k5] %[k1|k5] (bu ?_);rw[Aq];lk;refine lX (.inl rfl) (fun x hx=>?_) (by simp;exists k2,k5) ?_
  ·have:=(List.mem_replicate.mp hx).2;exists k2,k5,k6,x1,x2,this
  lk;refine⟨trivial,rfl,?_⟩;have hm:(m0 W)[i]?=some (n,v0 W n):=by unfold m0;rw[List.getElem?_map,hn];rfl
  rw[Ig,c8 hm];unfold iE aU;rw[bZ,bZ];rfl
 rintro aR ae - ⟨rfl,rfl⟩:_
 have BP:(m0 W).length=W.data.length:=by unfold m0;rw[bB]
 rw[qN,← BP,ib]
 have OA:=Qm W K
 refine bu ?_
 lk
 refine jr (ps:=aU (m0 W)) (t':=(4,0,0)) (.inl rfl) (by unfold aU;rw[bB];exists k2,dX,BP) ?_
 rintro va dp:(_)
 intro GD
 rw[mS (by unfold aU;rw[ey];show((m0 W).map (·.1)).Nodup;rw[OA.keys];exact pY W)]
 lk
 have JI:=aI hN va ((4,0,0),LO.dict (aU (m0 W)) dp)
 have w3:=(av hN ((4,0,0),LO.dict (aU (m0 W)) dp) (neN w2 GD)).trans w2
 have Gy:=(av hN ((4,0,0),LO.dict (aU (m0 W)) dp) (neN (o2.at (o1.at hT %[|0]) %[|0]) GD)).trans (o2.at (o1.at hT %[|0]) %[|0])
 have Gz:=(av hN ((4,0,0),LO.dict (aU (m0 W)) dp) (neN (o2.at (o1.at qd %[|0]) %[|0]) GD)).trans (o2.at (o1.at qd %[|0]) %[|0])
 have B3:=B2.new (c:=((4,0,0),LO.dict (aU (m0 W)) dp)) GD
 generalize upd hN va ((4,0,0),LO.dict (aU (m0 W)) dp)=dP at JI w3 Gy Gz B3 ⊢
 clear GD W2 w2 B2 o2 o1 hT qd B1
 refine IJ F1 F4 F5 (by f_are) (by k_in) (by k_in) (by intro _;with_unfolding_all rfl) ?_
 lk
 have lr:(bL 0 1 ((2:Int)).toNat).length=2:=iD
 refine mH %[|lr] (fun i aR ae=>∃s:Nat→Addr,aR=(List.range i).map (fun y=>LV.ref (s y))∧(∀y,y<i→fk W (v0 W) 3 200 y (s y) ae)∧aF (fun y=>8≤y) dP ae) ⟨fun _=>0,rfl,fun y hy=>absurd hy (Nat.not_lt_zero _),.refl _ _⟩ ⟨?_,?_⟩
 ·rintro c' ij:(_);rintro G1 G5 i v aR ae hv - ⟨s,rfl,S2,o2⟩:_;obtain⟨hi,rfl⟩:=fW hv;have hi:i<2:=hi;have e0:(0:Int)+(i:Int)*1=i:=by room
  rw[e0];refine cL ?_;lk;refine aT (Qh (P:=fun y=>y=100*(i+1)) (o:=100*(i+1)) (au:=v0 W) pr ⟨K,o2.at w3 %[|0]⟩ (o2.at JI %[|0]) rfl (by room) (by show 4≠100*(i+1);room) OA.e fun d D dG o4 r4 N4 D4=>?_) rfl;have C4:=Qn K r4;lk;refine aT (BN (P:=fun y=>y=100*(i+1)+1∨y=100*(i+1)+2∨y=8+i) (q:=100*(i+1)+1) (z:=100*(i+1)+2) (t:=(8+i,0,0)) pr ⟨K,o4.at (o2.at w3 %[|0]) (by room)⟩ D4 (by room) ⟨by room,by room,by room,by room,by room⟩ ⟨by room,by room⟩ N4 (.inl rfl) (.inr (.inl rfl)) (.inr (.inr rfl)) ⟨by show 8+i≠_;room,by show 8+i≠_;room,by show 8+i≠_;room⟩ C4.aQ C4.size %[|hi] fun x c j iZ o5 C5 J5 h5=>?_) rfl;have X5:aF (fun y=>8≤y) dP iZ:=(o2.trans (o4.mono fun y e=>by exists e)).trans (o5.mono fun y e=>by exists e);refine⟨trivial,fun y=>if y=i then x else s y,?_,fun y hy=>?_,X5⟩
  ·rw[List.range_succ,bZ];congr 1
   ·refine map_congr_left fun y hy=>?_;have:=List.mem_range.mp hy;show LV.ref (s y)=LV.ref (if y=i then x else s y);rw[aY %[|this]]
   show[LV.ref x]=[LV.ref (if i=i then x else s i)];rw[bh rfl]
  by_cases e:y=i
  ·subst e;show fk W (v0 W) 3 200 y (if y=y then x else s y) iZ;rw[bh rfl];exact⟨c,d,j,D,_,_,_,200,0,h5,C5,J5,⟨by room,by room,by room,by room,by room⟩,by room,⟨by room,by room⟩,⟨by room,by room⟩,⟨by room,by room⟩,C4,fg _⟩
  show fk W (v0 W) 3 200 y (if y=i then x else s y) iZ;rw[aY e];have hy:y<i:=by exists hy,e
  exact((S2 y hy).only o4 (by room) %[|hy] fun z h1 h2=>by exists hy,h2).only o5 (by room) %[|hy] fun z h1 h2=>by exists hi,hy,h1,h2
 rintro aR ae - ⟨s,rfl,S4,o4⟩:_
 rw[lr]at S4
 have Sg:=o4.at JI %[|0]
 have w4:=o4.at w3 %[|0]
 have Ca:=o4.at Gy %[|0]
 have Cb:=o4.at Gz %[|0]
 have B4:=B3.only o4 %[|0]
 rw[lr,show(List.range 2).map (fun y=>LV.ref (s y))=[.ref (s 0),.ref (s 1)]from rfl]
 clear JI w3 Gy Gz B3 o4
 refine bu fun its=>?_
 lk
 refine gW F2 (by intro _;with_unfolding_all rfl) ?_
 lk
 refine gE (Q:=fun v σ'=>v=.int (if wide then 2 else 1)∧σ'=ae) (lj ?_) ?_
 ·lk
  ·rename_i y;exact⟨by rw[y];rfl,rfl⟩
  rename_i y;exact⟨by rw[y];rfl,rfl⟩
 rintro _ dG ⟨rfl,rfl⟩:_
 have hwl:(bL 0 1 (if wide=true then(2:Int)else 1).toNat).length=if wide then 2 else 1:=by unfold bL;cases wide<;>simp
 refine PA (by split<;>decide) (by split<;>decide) ?_
 refine gV (fun i bt σ'=>bt "box"=some (.ref a)∧bt "wide"=some (.bool wide)∧bt "world"=some (.ref wa)∧bt "sides"=some (.fl [.ref (s 0),.ref (s 1)])∧∃JJ to dq mv v,bt "view"=some (.ref JJ)∧to.1=4∧σ' JJ=some (to,.dict (aU mv) dq)∧xe W mv v∧cb σ' a (100+4000*i)∧σ' wa=some ((3,0,0),.eC W.DJ)∧
  σ' 622=some ((7,0,0),.table "_law_done.<locals>.<lambda>")∧σ' 629=some ((7,1,0),.table "_law_open_right.<locals>.<lambda>")∧((i=0∨wide=true)→∀y,y<2→fk W v (3+10*i) (Cc i) y (s y) σ'))
  ⟨rfl,rfl,rfl,rfl,va,(4,0,0),dp,m0 W,v0 W,rfl,rfl,Sg,OA,B4.mono (by room),w4,Ca,Cb,fun _=>S4⟩ ⟨?_,?_⟩
 ·clear Sg w4 Ca Cb B4 S4;rintro its i v aC iZ hv - ⟨q1,q2,q3,q4,JJ,to,dq,mv,vw,q5,qe,ev,hV,B5,w5,GA,GB,S5⟩:_;obtain⟨hi,rfl⟩:=fW hv
  have uc:i<2∧(i=0∨wide=true):=by
   cases wide with
   |true=>exact⟨by simpa using hi,.inr rfl⟩
   |false =>
    have:i<1:=by simpa using hi
    exact⟨%[|this],.inl %[|this]⟩
  have S5:=S5 uc.2;have e0:(0:Int)+(i:Int)*1=i:=by room
  rw[e0];refine cL ?_;lk;refine gE (Q:=fun v σ'=>∃m,v=.int m∧1≤m∧m≤W.bb∧aF (fun y=>y=1) iZ σ'∧cb σ' a (100+4000*i+1)) (lj ?_) ?_
  ·lk
   ·refine bu ?_;lk;refine aT (eW (P:=fun y=>y=1) pr B5 rfl %[|0] %[|0] (by(have q:=uc.1;revert q;room)) fun dd i2 a6 b6 o6 B6=>?_) rfl;have zZ:dd=0∨dd=1∨dd=2∨dd=3:=by exists a6,b6
    rcases zZ with rfl|rfl|rfl|rfl
    ·refine dD (v:=.int W.bb) (.inl (.inl rfl)) %[|0] %[|0] rfl ?_;exact⟨_,rfl,%[|k1],by room,o6,B6⟩
    ·refine dD (v:=.int W.bb) (.inl (.inl rfl)) %[|0] %[|0] rfl ?_;exact⟨_,rfl,%[|k1],by room,o6,B6⟩
    ·refine dD (v:=.int 2) (.inl (.inl rfl)) %[|0] %[|0] rfl ?_;exact⟨_,rfl,by room,%[|k1],o6,B6⟩
    refine dD (v:=.int 1) (.inl (.inl rfl)) %[|0] %[|0] rfl ?_;exact⟨_,rfl,by room,%[|k1],o6,B6⟩
   exact⟨2,rfl,by decide,%[|k1],.refl _ _,B5.mono (by room)⟩
  rintro _ i2 ⟨m,rfl,Sh,Si,o6,B6⟩:_;have X6:=o6.at ev %[|qe];have w6:=o6.at w5 %[|0];have JG:=o6.at GA %[|0];have JH:=o6.at GB %[|0];have S6:∀y,y<2→fk W vw (3+10*i) (Cc i) y (s y) i2:=fun y hy=>(S5 y hy).only o6 (by(have q:=uc.1;revert q;room)) (by room) fun z h1 h2=>by exists h1
  lk;refine aT (NO (P:=fun y=>y=1) (t:=(4,1,0)) pr ⟨K,w6⟩ B6 rfl ⟨by decide,by decide,by decide⟩ (by(have q:=uc.1;revert q;room)) ⟨%[|Sh],Si⟩ ⟨by room,by omega⟩ fun fa mf df sI o7 B7 hF OC X7=>?_) rfl;have X8:=o7.at X6 %[|qe];have w7:=o7.at w6 %[|0];have Sj:=o7.at JG %[|0];have Sk:=o7.at JH %[|0];have S7:∀y,y<2→fk W vw (3+10*i) (Cc i) y (s y) sI:=fun y hy=>(S6 y hy).only o7 (by(have q:=uc.1;revert q;room)) (by room) fun z h1 h2=>by exists h1
  lk;refine aT (Ot (P:=fun y=>y≠3∧y≠4∧y≠7) (old:=vw) pr hb Sj Sk ⟨K,w7⟩ B7 (by(have q:=uc.1;revert q;room)) (GC uc.1).1 (by(have q:=uc.1;revert q;room)) S7 qe rfl X8 X7 hV hF %[Sh|OC] %[Si|OC] (fun k hk y hy=>by unfold jw at hy;exists hy) %[|0] fun na dn xR o8 B8 Sl S8=>?_) rfl;have Sm:=hV.put hF;have w8:=o8.at w7 (fun z=>z.1 rfl);have X9:=o8.at Sj (fun z=>z.2.2 rfl);have Yb:=o8.at Sk (fun z=>z.2.2 rfl);lk;refine iS ⟨(0,0,0),fun dx Sn pU=>?_⟩;have So:=(av xR ((0,0,0),LO.dict [] Sn) (neN Sl pU)).trans Sl;refine Hf (m:=bS mv mf) (n:=[]) So (aI ..) ?_
  have hf:sb (bS mv mf) []=false:=by
   have hl:(bS mv mf).length=W.data.length:=by have:=congrArg List.length Sm.keys;rw[bB]at this;exact this
   unfold sb
   have:((bS mv mf).length==([]:bW).length)=false:=by
    rw[hl];exact beq_false_of_ne (by simp only[length_nil];exists k1,dX)
   rw[this];rfl
  rw[hf];lk;have o9:aF (fun _=>False) xR (upd xR dx ((0,0,0),LO.dict [] Sn)):=(aF.refl _ xR).ja pU;refine⟨trivial,by k_ne,by k_ne,by k_ne,by k_ne,na,(4,9,0),dn,_,_,by k_ne,rfl,So,Sm,(B8.new pU).mono (by push_cast;room),o9.at w8 id,o9.at X9 id,o9.at Yb id,fun hw y hy=>?_⟩;have Qo:wide=true:=by rcases hw with h|h;(exfalso;revert h;room);exact h
  exact((S8 Qo y hy).only o9 (by(have q:=uc.1;revert q;room)) id fun _ _ _=>id).mono (GC uc.1).2 (by room)
 rintro aC iZ - ⟨-,-,-,-,JJ,to,dq,mv,vw,-,-,-,-,-,-,GA,GB,-⟩:_
 lk
 exact h _ GA GB
end
open JL
theorem K8{R:WRecords}{xs:List WData}(h:(WTm.and (.not (.lt (.lit (.int (63:Nat))) (.len (.arg 0)))) (.lit (.bool true))).holds R {args:=[.list xs]}=true):xs.length≤63:=by
 by_cases z:xs.length≤63
 ·exact z
 exfalso
 have e:less? (WData.int 63) (WData.int xs.length)=some true:=by
  show some (decide ((63:Int)<xs.length))=some true;rw[ia %[|z]]
 simp[WTm.holds,WTm.value,e]at h
theorem GF{P:Params}{h:Heap}{v:Value}{xs:List WData}(x:Well P h v (.list xs)):∃l vs,v=.ref l∧h.get? l=some {cls:=.type "list",data:=.seq vs.toArray}∧WellAll P h vs xs:=by
 cases x with
 |list ho ha=>exact⟨_,_,rfl,ho,ha⟩
theorem AO{P:Params}{h:Heap}{vs:List Value}(x:WellAll P h vs []):vs=[]:=by cases x;rfl
theorem GG{P:Params}{hp:Heap}{φ:FZ}:∀ {ns:List Int} {vs:List Value},WellAll P hp vs (ns.map WData.int)→bg φ (ns.map LV.int) vs:=by
 law_purse 0 =>
 revert P hp φ
 rintro P hp φ:(_)
 intro ll
 induction ll with
 |nil =>
  rintro _ h;rw[AO h];exact bg.bO.mpr rfl
 |cons n r ih =>
  rintro _ h;obtain⟨v,vr,rfl,h1,h2⟩:=wellAll_cons_inv h;exact bg.cZ.mpr ⟨by cases h1;exact⟨_,rfl⟩,ih h2⟩
theorem Qq:importsNone hd.view_1_40=true:=by k_in
theorem AQ(P:Params):(((hd.heap_1_39 P).lookup 629).isNone&&((hd.heap_1_39 P).lookup 622).isNone&&nsIn (hd.heap_1_39 P) mainGlobals "law"==some (some (.ref 664))&&codeHdIn (hd.heap_1_39 P) 626 622&&codeHdIn (hd.heap_1_39 P) 631 629)=true:=by k_in
noncomputable def gG(w:World)(aj:aG)(mg mb:Str→Option Value):Gd:=⟨PySem.Challenge.rw_tn0030_01.row.toRowW.prog,w,hd.heap_1_39 w.params,hideAll aj.heap [629,622],mg,mb⟩
noncomputable def Ga:St:=fun b=>if b=622 then some ((7,0,0),.table "_law_done.<locals>.<lambda>")else if b=629 then some ((7,1,0),.table "_law_open_right.<locals>.<lambda>")else none
theorem AR(b:Addr)(h1:b≠622)(h2:b≠629):Ga b=none:=by show(if b=622 then _ else if b=629 then _ else _)=_;rw[aY h1,aY h2]
theorem AU(nX:aj.heap.get? 629=some (tabObj #[]))(nY:aj.heap.get? 622=some (tabObj #[]))(b:Addr)(o:Obj)(e:aj.heap.get? b=some o)(n:o.cls≠.none):(hideAll aj.heap [629,622]).get? b=some o:=hideAll_get _ e fun z=>by
 rcases eb z with rfl|z
 ·rw[nX]at e;cases e;exact n rfl
 rcases eb z with rfl|z
 ·rw[nY]at e;cases e;exact n rfl
 cases z
theorem Yc:∀ {w:World} {s₀ aj:aG} {mg mb:Str→Option Value} {loose:List Str} {XP:(Str→Option Value)→Heap→Prop} (Gr:Ground hd.view_1_40 loose PySem.Challenge.rw_tn0030_01.row.toRowW.records XP w s₀ mg mb aj.heap) (X1:(hd.heap_1_39 w.params).In aj.heap) (nX:aj.heap.get? 629=some (tabObj #[])) (nY:aj.heap.get? 622=some (tabObj #[])),GP (gG w aj mg mb)∧Pr (gG w aj mg mb)∧qA (gG w aj mg mb):=by
 rintro w s₀ aj mg mb loose XP:(_)
 w_up
 have wt:=AQ w.params
 simp only[jA]at wt
 obtain⟨⟨⟨⟨w1,w2⟩,w3⟩,w4⟩,w5⟩:=wt
 have hg:∀b o,aj.heap.get? b=some o→o.cls≠.none→(hideAll aj.heap [629,622]).get? b=some o:=AU nX nY
 have iV:∀ {a:Addr} {m:Str→Option Value},aj.heap.Ns a m→(hideAll aj.heap [629,622]).Ns a m:=fun {a m} bR=>by
  obtain⟨o,es,ep,e,hd,r⟩:=bR;refine⟨o,es,ep,hideAll_get _ e fun z=>?_,hd,r⟩;rcases eb z with z|z
  ·rw[z,nX]at e;cases e;cases hd
  rcases eb z with z|z
  ·rw[z,nY]at e;cases e;cases hd
  cases z
 have KX:(hd.heap_1_39 w.params).In (hideAll aj.heap [629,622]):=fun b o e=>hideAll_get _ (X1 b o e) fun z=>by
  rcases eb z with rfl|z
  ·nomatch e,w1
  rcases eb z with rfl|z
  ·nomatch e,w2
  cases z
 have Qr:=Gr.T.seer Qq
 refine⟨⟨KX,iV Gr.T.g,iV Gr.T.b,Gr.T.builtins,(by
  obtain⟨mc,h1,h2⟩:=Gr.T.nolimit;exact⟨mc,iV h1,h2⟩),(by
  obtain⟨mm,h1,-⟩:=Qr.mods;obtain⟨o,es,ep,e,-⟩:=iV h1;exact⟨o,e⟩)⟩,⟨rfl,fun x v e=>mg_of X1 Gr.T.g e,fun x e=>ns_none_of X1 Gr.T.g e⟩,?_⟩
 obtain⟨bm,ob,b1,b2,b3,b4,b5,b6⟩:=Gr.T.bmain
 refine⟨bm,ob,b1,b2,fun z=>?_,hg _ _ b3 (by rw[b4];exact fun z=>by cases z),b4,b5,b6⟩
 obtain⟨o,es,ep,e,hd,-⟩:=Gr.T.g
 rw[z,e]at b3;cases b3;nomatch hd,b6
theorem Yd:∀ {w:World} {aj:aG} {mg mb:Str→Option Value} (OE:GP (gG w aj mg mb)) (nX:aj.heap.get? 629=some (tabObj #[])) (nY:aj.heap.get? 622=some (tabObj #[])) (qD:aj.gens=#[]),At (fun b=>(hideAll aj.heap [629,622]).get? b) aj Ga ⟨callerA,[],[],[]⟩ (gG w aj mg mb):=by
 rintro w aj mg:(_)
 rintro mb:(_)
 w_up
 refine⟨⟨⟨OE,fun b o e=>e⟩,fun b o e=>⟨of_hideAll _ e,AR b (fun z=>?_) fun z=>?_⟩,fun b t o e=>?_⟩,fun b hb=>(by cases hb),fun aa he=>(by cases he),qD⟩
 ·have:(hideAll aj.heap [629,622]).get? b=none:=hideAll_none _ (by rw[z];simp);have e:(hideAll aj.heap [629,622]).get? b=some o:=e;nomatch this,e
 ·have:(hideAll aj.heap [629,622]).get? b=none:=hideAll_none _ (by rw[z];simp);have e:(hideAll aj.heap [629,622]).get? b=some o:=e;nomatch this,e
 by_cases z:b=622
 ·subst z;have e:some (((7,0,0),.table "_law_done.<locals>.<lambda>"):Tag×LO)=some (t,o):=e;cases e;exact⟨#[],nY,trivial,fun ai cv y=>by cases y⟩
 by_cases z':b=629
 ·subst z';have e:some (((7,1,0),.table "_law_open_right.<locals>.<lambda>"):Tag×LO)=some (t,o):=e;cases e;exact⟨#[],nX,trivial,fun ai cv y=>by cases y⟩
 nomatch(AR b z z'),e
theorem UA{w:World}{mg mb:Str→Option Value}{loose:List Str}(Gr:Ground hd.view_1_40 loose PySem.Challenge.rw_tn0030_01.row.toRowW.records XP w s₀ mg mb aj.heap)(X1:(hd.heap_1_39 w.params).In aj.heap)(Fs:mg "law"=some (.ref a)):a=664:=by
 have wt:=AQ w.params
 simp only[jA]at wt
 have:=mg_of X1 Gr.T.g (eq_of_beq wt.1.1.2)
 rw[Fs]at this
 cases this;rfl
inductive OF(w:World)(aj:aG)(az:List WData)(au:List Value):Prop
 |mk (ns:List Int) (l:Addr) (vs:List Value) (e1:az=[.list (ns.map .int)]) (e2:au=[.ref l]) (hl:aj.heap.get? l=some {cls:=.type "list",data:=.seq vs.toArray}) (qX:WellAll w.params aj.heap vs (ns.map .int)) (hlen:ns.length≤63)
theorem GH{w:World}{az:List WData}{au:List Value}(qC:PySem.Challenge.rw_tn0030_01.row.toRowW.claim.pre az=true)(yK:WellAll w.params aj.heap au az):OF w aj az au:=by
 obtain⟨Ye,Yg⟩:=pre_splitW qC
 obtain⟨d,r,rfl,Rn,hr⟩:=hasAllW_cons Ye
 have:=hasAllW_nil hr
 subst this
 obtain⟨xs,rfl,Yh⟩:=hasW_list Rn
 obtain⟨ns,rfl⟩:=items_int Yh
 have hlen:=K8 Yg
 rw[bB]at hlen
 obtain⟨v,vr,rfl,Yi,Yj⟩:=wellAll_cons_inv yK
 obtain⟨l,vs,rfl,hl,qX⟩:=GF Yi
 rw[AO Yj]
 exact⟨ns,l,vs,rfl,rfl,hl,qX,hlen⟩
theorem row_holds:PySem.Challenge.rw_tn0030_01.Holds:=by
 refine hd._proof_1_989 ?_
 rintro w s₀ aj mg mb:(_)
 rintro loose XP:(_)
 intro Gr X1 nX nY a Fs qD
 obtain⟨OE,pr,bm⟩:=Yc Gr X1 nX nY
 have ha:=UA Gr X1 Fs
 subst ha
 intro az au as qC wV Na yK UB
 obtain⟨ns,l,vs,e1,e2,hl,qX,hlen⟩:=GH qC yK
 subst e1 e2
 clear qC wV Na yK UB
 revert hl qX hlen
 revert ns l vs
 rintro ns l vs:(_)
 intro hl qX hlen
 have wt:=AQ w.params
 simp only[jA]at wt
 obtain⟨⟨⟨⟨w1,w2⟩,w3⟩,w4⟩,w5⟩:=wt
 have hg:∀b o,aj.heap.get? b=some o→o.cls≠.none→(hideAll aj.heap [629,622]).get? b=some o:=AU nX nY
 have hv:bg (fun b=>(hideAll aj.heap [629,622]).get? b) [.fl (ns.map LV.int)] [.ref l]:=bg.cZ.mpr ⟨by
  simp only[lh,ky,kz,kA,kE,kF,kG,ke,kg,ix,iy,iA];exact⟨l,vs.toArray,_,rfl,hg _ _ hl (fun z=>by cases z),by simpa using GG qX⟩,bg.bO.mpr rfl⟩
 have hc:dM 17 (⟨callerA,[],[],[]⟩:Lake.Ctx):=⟨rfl,rfl,by decide,by decide⟩
 have run:=(Uz (G:=gG w aj mg mb) (σ:=Ga) (u:=.fl (ns.map LV.int)) (Q:=fun v σ'=>v=.bool true∧σ' 622=some ((7,0,0),.table "_law_done.<locals>.<lambda>")∧σ' 629=some ((7,1,0),.table "_law_open_right.<locals>.<lambda>")) (fun _=>.inl (.inl rfl)) pr bm rfl rfl %[|hlen] fun σ' h1 h2=>⟨rfl,h1,h2⟩).run hc (Yd OE nX nY qD) hv
 refine bG.go run ?_ fun e s' z=>g6 z
 rintro v s' aH σ' lv:(_)
 intro S rv iX
 obtain⟨e1,e2,e3⟩:=iX
 subst e1
 have rv:v=.bool true:=rv
 subst rv
 have keep:∀b o,aj.heap.get? b=some o→b≠629→b≠622→s'.heap.get? b=some o:=fun b o e n1 n2=>(S.at_.rep.fz _ _ (S.ext b o (hideAll_get _ e fun z=>by
  rcases eb z with rfl|z
  ·exact n1 rfl
  rcases eb z with rfl|z
  ·exact n2 rfl
  cases z))).1
 obtain⟨t1,y1,-⟩:=S.at_.rep.ob _ _ _ e2
 obtain⟨t2,y2,-⟩:=S.at_.rep.ob _ _ _ e3
 obtain⟨oc,Yk,_,_,_,_,_,_,_,c1,c2,c3,c4,-⟩:=codeHd_of_K X1 w4
 obtain⟨Yl,UC,_,_,_,_,_,_,_,d1,d2,d3,d4,-⟩:=codeHd_of_K X1 w5
 refine⟨.inl ⟨.bool true,.bool true,[],rfl,fun cls=>rfl,.bool true,(by f_are),fun _=>⟨nodup_nil,fun a h=>by cases h⟩⟩,⟨fun b o e=>?_,fun b o e=>?_⟩,S.os,AllBare.of_eq S.at_.gens⟩
 ·by_cases n1:b=629
  ·subst n1;nomatch nX,e;exact .inr (.inl ⟨⟨_,Yl,UC,d1,d2,d3,d4⟩,rfl,#[],t2,rfl,by rw[y2];simp⟩)
  by_cases n2:b=622
  ·subst n2;nomatch nY,e;exact .inr (.inl ⟨⟨_,oc,Yk,c1,c2,c3,c4⟩,rfl,#[],t1,rfl,by rw[y1];simp⟩)
  exact .inl (keep b o e n1 n2)
 by_cases n1:b=629
 ·subst n1;exact⟨_,y2⟩
 by_cases n2:b=622
 ·subst n2;exact⟨_,y1⟩
 exact⟨_,keep b o e n1 n2⟩
end Lake
end
end
theorem PySem.Challenge.cw_tn0030_01_holds : PySem.Challenge.rw_tn0030_01.Holds :=
  Lake.row_holds
