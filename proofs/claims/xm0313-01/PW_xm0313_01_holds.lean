import PyProof.Rows.All
import KE.KSetAt
import Wide.All
import OpenK.AllK
import Wide.FinOn
import PyProof.TupleKey
import PyProof.CompFree
import OpenK.KCell
import KE.LcTurns
import PyProof.Rows.TupTab
import KE.KDeep
import KE.KSlice
import PyProof.Rows.StrNews
import PyProof.Rows.ExtendIn
import KE.KEqDict
import PyProof.Rows.RegBootName
import OpenK.KComp
import PyProof.Cells
import OpenK.KDict
import OpenK.KLine
import PyProof.WalksMore
import PyProof.RangeFor
import PyProof.ForRange
import PyProof.Rows.TupAssign
import PyProof.Rows.TupIter
import PyProof.CompMap
import PyProof.Rows.DictMethods
import PyProof.CompUse
import PyProof.RulesTry
import PyProof.StationsW
import PyProof.ExcInit
import PyProof.ExcBaseAll.Exception
import PyProof.InstStoreFacts
import PyProof.DefCall
import OpenK.TopRead
import Lean
import PySem.Challenge.RW_xm0313_01
set_option maxHeartbeats 8000000
set_option Elab.async false
set_option linter.all false
set_option maxRecDepth 100000
set_option genSizeOf false
set_option genCtorIdx false
set_option genInjectivity false
set_option bootstrap.genMatcherCode false
set_option backward.match.sparseCases false
open PySem PySem.W PySem.Calls PyProof.Rows
namespace Mine
noncomputable abbrev sh (s:Shared) (h:Heap) (t:Nat):Shared:={s with heap:=h,toks:=t}
abbrev zQ:=Value→Shared→Prop
abbrev zV:=List Value
abbrev zO:=Option (Nat×Nat×Nat)
abbrev zA:=List (Addr×Obj)
noncomputable def bw.{u}:= @Option.some.inj.{u}
noncomputable def dS.{u}:= @List.mem_append_left.{u}
noncomputable def d9.{u}:= @List.mem_append_right.{u}
noncomputable def bP:= @wpAny_bind
noncomputable def dY:= @wpAny_pure
noncomputable def dP.{u} {α:Type u} {b:α} {l:List α} {a:α}:=(List.mem_cons (a:=a) (b:=b) (l:=l)).mp
noncomputable def jy.{u} {α:Type u} {l:List α} {i:Nat} {a:α}:=(List.getElem?_eq_some_iff (l:=l) (i:=i) (a:=a)).mp
noncomputable def gh.{u} {α:Type u} {l:List α} {p:α→Bool}:=(List.all_eq_true (l:=l) (p:=p)).mp
noncomputable def fO.{u}:= @List.length_append.{u}
noncomputable def gH:= @decide_eq_true
noncomputable def nU:= @decide_eq_false
noncomputable def dR:= @of_decide_eq_true
noncomputable def jx.{u} {α:Type u} {a:α} {s t:List α}:=(List.mem_append (a:=a) (s:=s) (t:=t)).mp
noncomputable def nW.{u} {α:Type u} {a b:α}:=(List.mem_singleton (a:=a) (b:=b)).mp
noncomputable def aS.{u}:= @if_neg.{u}
noncomputable def bk.{u}:= @if_pos.{u}
noncomputable def pG:= @Nat.le_of_ble_eq_true
noncomputable def tD.{u}:= @List.getElem?_eq_getElem.{u}
noncomputable def nV {m n:Nat}:=(List.mem_range (m:=m) (n:=n)).mpr
noncomputable def uR.{u}:= @List.getElem?_append_left.{u}
noncomputable def Bx.{u}:= @List.getElem?_append_right.{u}
noncomputable def je:= @Nat.le_of_not_lt
noncomputable def fQ:= @Nat.le_trans
noncomputable def jd:= @Nat.le_refl
noncomputable def oi:= @Nat.div_add_mod
noncomputable def By.{u} {α:Type u} {o:Option α}:=(Option.isNone_iff_eq_none (o:=o)).mp
noncomputable def tM:= @Nat.lt_of_lt_of_le
noncomputable def lM:= @Nat.ne_of_lt
noncomputable def uS:= @Nat.lt_or_gt_of_ne
theorem cg {α:Sort u} {a b:α} (h:a=b:=by kernel_rfl):a=b:=h
theorem aD {p:Prop} [Decidable p] (h:decide p=true:=by kernel_rfl):p:=of_decide_eq_true h
section
variable {C:Type} {R:Prop} {D:C→Prop} {E:Type} {p1:C→Prop} {F:Type} {p2 p3:C→Prop} {L:Type} {p4:C→E→Prop}
theorem aA (h:∃x0,D x0) (f:∀x0,D x0→R):R:=h.elim fun x0 h=>f x0 h
theorem aZ {D p1:Prop} (h:D∧p1) (f:D→p1→R):R:=f h.1 h.2
theorem ji {D:C→E→Prop} (h:∃x0,∃A,D x0 A) (f:∀x0 A,D x0 A→R):R:=h.elim fun x0 h=>h.elim fun A h=>f x0 A h
theorem az (h:∃x0,D x0∧p1 x0) (f:∀x0,D x0→p1 x0→R):R:=h.elim fun x0 h=>f x0 h.1 h.2
theorem eg {D p1 p2:Prop} (h:D∧p1∧p2) (f:D→p1→p2→R):R:=f h.1 h.2.1 h.2.2
theorem t9 {D:C→E→F→Prop} (h:∃x0,∃A,∃B,D x0 A B) (f:∀x0 A B,D x0 A B→R):R:=h.elim fun x0 h=>h.elim fun A h=>h.elim fun B h=>f x0 A B h
theorem dB {D p1:C→E→Prop} (h:∃x0,∃A,D x0 A∧p1 x0 A) (f:∀x0 A,D x0 A→p1 x0 A→R):R:=h.elim fun x0 h=>h.elim fun A h=>f x0 A h.1 h.2
theorem iZ (h:∃x0,D x0∧p1 x0∧p2 x0) (f:∀x0,D x0→p1 x0→p2 x0→R):R:=h.elim fun x0 h=>f x0 h.1 h.2.1 h.2.2
theorem zf {D p1 p2 p3:Prop} (h:D∧p1∧p2∧p3) (f:D→p1→p2→p3→R):R:=f h.1 h.2.1 h.2.2.1 h.2.2.2
theorem t_ {D p1:C→E→F→Prop} (h:∃x0,∃A,∃B,D x0 A B∧p1 x0 A B) (f:∀x0 A B,D x0 A B→p1 x0 A B→R):R:=h.elim fun x0 h=>h.elim fun A h=>h.elim fun B h=>f x0 A B h.1 h.2
theorem tY {D p1 p2:C→E→Prop} (h:∃x0,∃A,D x0 A∧p1 x0 A∧p2 x0 A) (f:∀x0 A,D x0 A→p1 x0 A→p2 x0 A→R):R:=h.elim fun x0 h=>h.elim fun A h=>f x0 A h.1 h.2.1 h.2.2
theorem jH (h:∃x0,D x0∧p1 x0∧p2 x0∧p3 x0) (f:∀x0,D x0→p1 x0→p2 x0→p3 x0→R):R:=h.elim fun x0 h=>f x0 h.1 h.2.1 h.2.2.1 h.2.2.2
theorem B_ {D p1:C→E→F→L→Prop} (h:∃x0,∃A,∃B,∃I,D x0 A B I∧p1 x0 A B I) (f:∀x0 A B I,D x0 A B I→p1 x0 A B I→R):R:=h.elim fun x0 h=>h.elim fun A h=>h.elim fun B h=>h.elim fun I h=>f x0 A B I h.1 h.2
theorem xo {D p1 p2:C→E→F→Prop} (h:∃x0,∃A,∃B,D x0 A B∧p1 x0 A B∧p2 x0 A B) (f:∀x0 A B,D x0 A B→p1 x0 A B→p2 x0 A B→R):R:=h.elim fun x0 h=>h.elim fun A h=>h.elim fun B h=>f x0 A B h.1 h.2.1 h.2.2
theorem tZ {D p1 p2 p3:C→E→Prop} (h:∃x0,∃A,D x0 A∧p1 x0 A∧p2 x0 A∧p3 x0 A) (f:∀x0 A,D x0 A→p1 x0 A→p2 x0 A→p3 x0 A→R):R:=h.elim fun x0 h=>h.elim fun A h=>f x0 A h.1 h.2.1 h.2.2.1 h.2.2.2
theorem EY {p4:C→Prop} (h:∃x0,D x0∧p1 x0∧p2 x0∧p3 x0∧p4 x0) (f:∀x0,D x0→p1 x0→p2 x0→p3 x0→p4 x0→R):R:=h.elim fun x0 h=>f x0 h.1 h.2.1 h.2.2.1 h.2.2.2.1 h.2.2.2.2
theorem lB {D p1 p2 p3:C→E→F→Prop} (h:∃x0,∃A,∃B,D x0 A B∧p1 x0 A B∧p2 x0 A B∧p3 x0 A B) (f:∀x0 A B,D x0 A B→p1 x0 A B→p2 x0 A B→p3 x0 A B→R):R:=h.elim fun x0 h=>h.elim fun A h=>h.elim fun B h=>f x0 A B h.1 h.2.1 h.2.2.1 h.2.2.2
theorem zg {D p1 p2 p3:C→E→Prop} (h:∃x0,∃A,D x0 A∧p1 x0 A∧p2 x0 A∧p3 x0 A∧p4 x0 A) (f:∀x0 A,D x0 A→p1 x0 A→p2 x0 A→p3 x0 A→p4 x0 A→R):R:=h.elim fun x0 h=>h.elim fun A h=>f x0 A h.1 h.2.1 h.2.2.1 h.2.2.2.1 h.2.2.2.2
theorem Iw {D p1 p2 p3:C→E→F→L→Prop} (h:∃x0,∃A,∃B,∃I,D x0 A B I∧p1 x0 A B I∧p2 x0 A B I∧p3 x0 A B I) (f:∀x0 A B I,D x0 A B I→p1 x0 A B I→p2 x0 A B I→p3 x0 A B I→R):R:=h.elim fun x0 h=>h.elim fun A h=>h.elim fun B h=>h.elim fun I h=>f x0 A B I h.1 h.2.1 h.2.2.1 h.2.2.2
theorem Iu {D p1 p2 p3 p4:C→E→F→Prop} (h:∃x0,∃A,∃B,D x0 A B∧p1 x0 A B∧p2 x0 A B∧p3 x0 A B∧p4 x0 A B) (f:∀x0 A B,D x0 A B→p1 x0 A B→p2 x0 A B→p3 x0 A B→p4 x0 A B→R):R:=h.elim fun x0 h=>h.elim fun A h=>h.elim fun B h=>f x0 A B h.1 h.2.1 h.2.2.1 h.2.2.2.1 h.2.2.2.2
theorem ua {N:Type} {D p1 p2 p3:C→E→F→L→N→Prop} (h:∃x0,∃A,∃B,∃I,∃K,D x0 A B I K∧p1 x0 A B I K∧p2 x0 A B I K∧p3 x0 A B I K) (f:∀x0 A B I K,D x0 A B I K→p1 x0 A B I K→p2 x0 A B I K→p3 x0 A B I K→R):R:=h.elim fun x0 h=>h.elim fun A h=>h.elim fun B h=>h.elim fun I h=>h.elim fun K h=>f x0 A B I K h.1 h.2.1 h.2.2.1 h.2.2.2
theorem p9 {D p1 p2 p3 p4 p5:C→E→F→Prop} (h:∃x0,∃A,∃B,D x0 A B∧p1 x0 A B∧p2 x0 A B∧p3 x0 A B∧p4 x0 A B∧p5 x0 A B) (f:∀x0 A B,D x0 A B→p1 x0 A B→p2 x0 A B→p3 x0 A B→p4 x0 A B→p5 x0 A B→R):R:=h.elim fun x0 h=>h.elim fun A h=>h.elim fun B h=>f x0 A B h.1 h.2.1 h.2.2.1 h.2.2.2.1 h.2.2.2.2.1 h.2.2.2.2.2
theorem Mh {p4 p5 p6 p7:C→Prop} (h:∃x0,D x0∧p1 x0∧p2 x0∧p3 x0∧p4 x0∧p5 x0∧p6 x0∧p7 x0) (f:∀x0,D x0→p1 x0→p2 x0→p3 x0→p4 x0→p5 x0→p6 x0→p7 x0→R):R:=h.elim fun x0 h=>f x0 h.1 h.2.1 h.2.2.1 h.2.2.2.1 h.2.2.2.2.1 h.2.2.2.2.2.1 h.2.2.2.2.2.2.1 h.2.2.2.2.2.2.2
theorem iB {D:Prop} (h:D∧∃x0,p1 x0∧p2 x0) (f:D→∀x0,p1 x0→p2 x0→R):R:=h.2.elim fun x0 G=>f h.1 x0 G.1 G.2
theorem iC {D:Prop} {p1:C→E→Prop} (h:D∧∃x0,∃A,p1 x0 A) (f:D→∀x0,∀A,p1 x0 A→R):R:=h.2.elim fun x0 G=>G.elim fun A H=>f h.1 x0 A H
theorem p_ {D:Prop} (h:D∧∃x0,p1 x0∧p2 x0∧p3 x0) (f:D→∀x0,p1 x0→p2 x0→p3 x0→R):R:=h.2.elim fun x0 G=>f h.1 x0 G.1 G.2.1 G.2.2
theorem Ca {D:Prop} {p1:C→E→Prop} {p2:C→E→Prop} (h:D∧∃x0,∃A,p1 x0 A∧p2 x0 A) (f:D→∀x0,∀A,p1 x0 A→p2 x0 A→R):R:=h.2.elim fun x0 G=>G.elim fun A H=>f h.1 x0 A H.1 H.2
theorem bQ {p1:C→E→Prop} {p2:C→E→Prop} (h:∃x0,D x0∧∃A,p1 x0 A∧p2 x0 A) (f:∀x0,D x0→∀A,p1 x0 A→p2 x0 A→R):R:=h.elim fun x0 G=>G.2.elim fun A H=>f x0 G.1 A H.1 H.2
theorem mZ {p2:C→E→F→Prop} (h:∃x0,D x0∧p1 x0∧∃A,∃B,p2 x0 A B) (f:∀x0,D x0→p1 x0→∀A,∀B,p2 x0 A B→R):R:=h.elim fun x0 G=>G.2.2.elim fun A H=>H.elim fun B J=>f x0 G.1 G.2.1 A B J
theorem xq {D:Prop} {p1:Prop} {p2:C→E→Prop} {p3:C→E→Prop} (h:D∧p1∧∃x0,∃A,p2 x0 A∧p3 x0 A∧p4 x0 A) (f:D→p1→∀x0,∀A,p2 x0 A→p3 x0 A→p4 x0 A→R):R:=h.2.2.elim fun x0 G=>G.elim fun A H=>f h.1 h.2.1 x0 A H.1 H.2.1 H.2.2
theorem xu {p3:C→E→Prop} (h:∃x0,D x0∧p1 x0∧p2 x0∧∃A,p3 x0 A∧p4 x0 A) (f:∀x0,D x0→p1 x0→p2 x0→∀A,p3 x0 A→p4 x0 A→R):R:=h.elim fun x0 G=>G.2.2.2.elim fun A H=>f x0 G.1 G.2.1 G.2.2.1 A H.1 H.2
theorem eo {D:Prop} {p1:Prop} {p2:Prop} (G:D) (H:p1) (J:p2):D∧p1∧p2:=⟨G,H,J⟩
theorem cJ (x0:C) (G:D x0) (H:p1 x0):∃x0,D x0∧p1 x0:=⟨x0,G,H⟩
theorem zN {D:C→E→Prop} (x0:C) (A:E) (G:D x0 A):∃x0,∃A,D x0 A:=⟨x0,A,G⟩
theorem qk {D:Prop} (G:D) (x0:C) (H:p1 x0) (J:p2 x0):D∧∃x0,p1 x0∧p2 x0:=⟨G,x0,H,J⟩
theorem n6 (x0:C) (G:D x0) (H:p1 x0) (J:p2 x0):∃x0,D x0∧p1 x0∧p2 x0:=⟨x0,G,H,J⟩
theorem Fi {D:C→E→Prop} {p1:C→E→Prop} (x0:C) (A:E) (G:D x0 A) (H:p1 x0 A):∃x0,∃A,D x0 A∧p1 x0 A:=⟨x0,A,G,H⟩
theorem zM (x0:C) (G:D x0) (H:p1 x0) (J:p2 x0) (M:p3 x0):∃x0,D x0∧p1 x0∧p2 x0∧p3 x0:=⟨x0,G,H,J,M⟩
theorem xC {D:C→E→Prop} {p1:C→E→Prop} {p2:C→E→Prop} (x0:C) (A:E) (G:D x0 A) (H:p1 x0 A) (J:p2 x0 A):∃x0,∃A,D x0 A∧p1 x0 A∧p2 x0 A:=⟨x0,A,G,H,J⟩
theorem Fj {D:C→E→F→Prop} {p1:C→E→F→Prop} (x0:C) (A:E) (B:F) (G:D x0 A B) (H:p1 x0 A B):∃x0,∃A,∃B,D x0 A B∧p1 x0 A B:=⟨x0,A,B,G,H⟩
theorem Ni {D:C→E→F→Prop} {p1:C→E→F→Prop} {p2:C→E→F→Prop} {p3:C→E→F→Prop} {p4:C→E→F→Prop} (x0:C) (A:E) (B:F) (G:D x0 A B) (H:p1 x0 A B) (J:p2 x0 A B) (M:p3 x0 A B) (O:p4 x0 A B):∃x0,∃A,∃B,D x0 A B∧p1 x0 A B∧p2 x0 A B∧p3 x0 A B∧p4 x0 A B:=⟨x0,A,B,G,H,J,M,O⟩
theorem Nj {D:C→E→F→Prop} {p1:C→E→F→Prop} {p2:C→E→F→Prop} {p3:C→E→F→Prop} {p4:C→E→F→Prop} {p5:C→E→F→Prop} (x0:C) (A:E) (B:F) (G:D x0 A B) (H:p1 x0 A B) (J:p2 x0 A B) (M:p3 x0 A B) (O:p4 x0 A B) (P:p5 x0 A B):∃x0,∃A,∃B,D x0 A B∧p1 x0 A B∧p2 x0 A B∧p3 x0 A B∧p4 x0 A B∧p5 x0 A B:=⟨x0,A,B,G,H,J,M,O,P⟩
end
section
variable {c:List Nat}
inductive LX where
 |n (k:Nat)
 |v (i:Nat)
 |a (x y:LX)
 |m (k:Nat) (x:LX)
noncomputable def Lv:List Nat→Nat→Nat
 |[],_=>0
 |x::l,i=>match i with
  |0=>x
  |i+1=>Lv l i
noncomputable def LX.d (c:List Nat):LX→Nat
 | .n k=>k
 | .v i=>Lv c i
 | .a x y=>x.d c+y.d c
 | .m k x=>k*x.d c
noncomputable def JO:Nat→List Nat
 |0=>[1]
 |i+1=>0::JO i
noncomputable def xJ:List Nat→List Nat→List Nat
 |[],y=>y
 |a::x,y=>match y with
  |[]=>a::x
  |b::y=>(a+b)::xJ x y
noncomputable def yr (k:Nat):List Nat→List Nat
 |[]=>[]
 |a::x=>(k*a)::yr k x
noncomputable def LX.p:LX→List Nat
 | .n k=>[k]
 | .v i=>0::JO i
 | .a x y=>xJ x.p y.p
 | .m k x=>yr k x.p
noncomputable def k_:List Nat→List Nat→Nat
 |[],_=>0
 |a::x,c=>match c with
  |[]=>0
  |b::c=>a*b+k_ x c
noncomputable def Ls:List Nat→List Nat→Bool
 |_,[]=>true
 |x,b::y=>match x with
  |[]=>Nat.beq b 0&&Ls [] y
  |a::x=>Nat.ble b a&&Ls x y
noncomputable def Ss (x y:List Nat):Bool:=match x with
 |[]=>false
 |a::x=>match y with
  |[]=>Nat.blt 0 a
  |b::y=>Nat.blt b a&&Ls x y
inductive LL where
 |o
 |l (m:Nat) (x y:LX) (t:LL)
 |e (m:Nat) (x y:LX) (t:LL)
 |f (m:Nat) (x y:LX) (t:LL)
noncomputable def lD (c:List Nat) (G:Prop):LL→Prop
 | .o=>G
 | .l _ x y t=>∀h:x.d c≤y.d c,lD c G t
 | .e _ x y t=>∀h:x.d c=y.d c,lD c G t
 | .f _ x y t=>∀h:x.d c=y.d c,lD c G t
noncomputable def lS:LL→List Nat→List Nat→Bool
 | .o,x,y=>Ss x y
 | .l m l r t,x,y=>lS t (xJ (yr m l.p) x) (xJ (yr m r.p) y)
 | .e m l r t,x,y=>lS t (xJ (yr m l.p) x) (xJ (yr m r.p) y)
 | .f m l r t,x,y=>lS t (xJ (yr m r.p) x) (xJ (yr m l.p) y)
theorem sf:∀{x y c:List Nat},k_ (xJ x y) c=k_ x c+k_ y c
 |[],y,c=>(Nat.zero_add _).symm
 |a::x,[],c=>by cases c<;>rfl
 |a::x,b::y,[]=>rfl
 |a::x,b::y,d::c=>by show (a+b)*d+k_ (xJ x y) c=a*d+k_ x c+(b*d+k_ y c);rw [sf,Nat.add_mul,Nat.add_add_add_comm]
theorem vU {k:Nat}:∀{x c:List Nat},k_ (yr k x) c=k*k_ x c
 |[],c=>rfl
 |a::x,[]=>rfl
 |a::x,d::c=>by show k*a*d+k_ (yr k x) c=k*(a*d+k_ x c);rw [vU,Nat.mul_add,Nat.mul_assoc]
theorem D9:∀{i:Nat} {c:List Nat},k_ (JO i) c=Lv c i
 |0,[]=>rfl
 |0,b::c=>by show 1*b+0=b;rw [Nat.one_mul,Nat.add_zero]
 |i+1,[]=>rfl
 |i+1,b::c=>by show 0*b+k_ (JO i) c=Lv c i;rw [D9,Nat.zero_mul,Nat.zero_add]
theorem uz:∀{x:LX},k_ x.p (1::c)=x.d c
 | .n k=>Nat.mul_one k
 | .v i=>by show 0*1+k_ (JO i) c=_;rw [D9];exact Nat.zero_add _
 | .a x y=>sf.trans (congr (congrArg _ uz) uz)
 | .m k x=>vU.trans (congrArg _ uz)
theorem uy:∀{x y c:List Nat},Ls x y=true→k_ y c≤k_ x c
 |_,[],_,_=>Nat.zero_le _
 |x,b::y,[],_=>Nat.zero_le _
 |[],b::y,d::c,h=>by have h:=Bool.and_eq_true_iff.mp h;show b*d+k_ y c≤0;rw [Nat.eq_of_beq_eq_true h.1,Nat.zero_mul,Nat.zero_add];exact uy (x:=[]) h.2
 |a::x,b::y,d::c,h=>by have h:=Bool.and_eq_true_iff.mp h;exact Nat.add_le_add (Nat.mul_le_mul_right d (pG h.1)) (uy h.2)
theorem FT {x y:List Nat} (h:Ss x y=true):k_ y (1::c)<k_ x (1::c):=by
 cases x with
 |nil=>exact nomatch h
 |cons a x=>cases y with
  |nil=>exact tM (pG h) (fQ (Nat.le_of_eq (Nat.mul_one a).symm) (Nat.le_add_right _ _))
  |cons b y=>have h:=Bool.and_eq_true_iff.mp h;refine Nat.add_lt_add_of_lt_of_le ?_ (uy h.2);rw [Nat.mul_one,Nat.mul_one];exact pG h.1
theorem z8 {m:Nat} {x y:List Nat} {l r:LX} (q:l.d c≤r.d c) (e:k_ x (1::c)≤k_ y (1::c)):k_ (xJ (yr m l.p) x) (1::c)≤k_ (xJ (yr m r.p) y) (1::c):=by rw [sf,sf,vU,vU,uz,uz];exact Nat.add_le_add (Nat.mul_le_mul_left m q) e
theorem r9 {G:Prop}:∀{t:LL} {x y:List Nat},lS t x y=true→(¬G→k_ x (1::c)≤k_ y (1::c))→lD c G t
 | .o,x,y,h,e=>Classical.byContradiction fun g=>Nat.lt_irrefl _ (tM (FT h) (e g))
 | .l m l r t,x,y,h,e=>fun q=>r9 (t:=t) h fun g=>z8 q (e g)
 | .e m l r t,x,y,h,e=>fun q=>r9 (t:=t) h fun g=>z8 (Nat.le_of_eq q) (e g)
 | .f m l r t,x,y,h,e=>fun q=>r9 (t:=t) h fun g=>z8 (Nat.le_of_eq (Eq.symm q)) (e g)
noncomputable def Q8 (a:Nat):List Nat→Prop
 |[]=>False
 |x::l=>match l with
  |[]=>a=x
  |_::_=>a=x∨Q8 a l
theorem J0 {p:Nat→Bool} {a:Nat}:∀{l:List Nat},l.all p=true→Q8 a l→p a=true
 |[],_,h=>h.elim
 |x::[],e,h=>by rw [show a=x from h];exact (Bool.and_eq_true_iff.mp e).1
 |x::y::l,e,h=>(show a=x∨Q8 a (y::l) from h).elim (fun h=>by rw [h];exact (Bool.and_eq_true_iff.mp e).1) (J0 (Bool.and_eq_true_iff.mp e).2)
namespace K
noncomputable def Mf (b:Bool) (P:Prop):Prop:=match b with
 |true=>P
 |false=>True
theorem yW {b:Bool} {P:Prop} (h:b=true→P):Mf b P:=by
 cases b with
 |true=>exact h rfl
 |false=>trivial
theorem no (c:List Nat) (t:LL):Mf (lS t [] []) (lD c False t):=yW fun h=>r9 h fun Z=>jd _
theorem le (c:List Nat) (l r:LX) (t:LL):Mf (lS t (xJ r.p [1]) l.p) (lD c (l.d c≤r.d c) t):=yW fun h=>r9 h fun g=>by rw [sf,uz,uz];exact Nat.lt_of_not_le g
noncomputable abbrev v:=LX.v
noncomputable abbrev n:=LX.n
noncomputable abbrev A:=LX.a
noncomputable abbrev M:=LX.m
noncomputable abbrev o:=LL.o
noncomputable abbrev L:=LL.l 1
noncomputable abbrev E:=LL.e 1
noncomputable abbrev F:=LL.f 1
noncomputable abbrev v0:=v 0
noncomputable abbrev v1:=v 1
noncomputable abbrev v2:=v 2
noncomputable abbrev v3:=v 3
noncomputable abbrev v4:=v 4
noncomputable abbrev v5:=v 5
noncomputable abbrev n0:=n 0
noncomputable abbrev n1:=n 1
noncomputable abbrev S (x:LX):=A x n1
theorem sc {a b:Nat} (h:b≤a):a -b+b=a:=Nat.sub_add_cancel h
theorem an {a b:Nat} (h:a≤b) (g:b≤a):a=b:=Nat.le_antisymm h g
end K
section
open K
end
end
section
open K
variable {a b c d e f g i j k l:Nat}
theorem k0:¬(a:Int)<0:=Int.not_lt.mpr (Int.natCast_nonneg _)
theorem k1:∀h:a<b,a<b:=le [b,a] (S v1) v0 (L (S v1) v0 o)
theorem k6:a=0+a:=an (le [a] v0 (A n0 v0) o) (le [a] (A n0 v0) v0 o)
theorem k7(h0:a=b+(c+d)):a=b+c+d:=an (le [b,c,d,a] v3 (A (A v0 v1) v2) (E v3 (A v0 (A v1 v2)) o) h0) (le [a,b,c,d] (A (A v1 v2) v3) v0 (F v0 (A v1 (A v2 v3)) o) h0)
theorem I9:∀h:20000≤b,∀h:a≤5000,a≤b:=le [b,a] v1 v0 (L (n 20000) v0<|L v1 (n 5000) o)
theorem RX:∀h:a<c,∀h:b=c,a<b:=le [b,a,c] (S v1) v0 (L (S v1) v2<|F v0 v2 o)
theorem Lo(h0:a=b)(h1:b≤5000):(a:Int)<9223372036854775808:=Int.ofNat_lt.mpr (Nat.lt_of_le_of_lt (h0▸h1) (by decide:5000<9223372036854775808))
theorem Vm:∀h:20000≤b,∀h:a=c,∀h:c≤5000,a≤b:=le [b,a,c] v1 v0 (L (n 20000) v0<|E v1 v2<|L v2 (n 5000) o)
theorem Jh:∀h:a+1<b,a<b:=le [b,a] (S v1) v0 (L (S (S v1)) v0 o)
theorem Vn:∀h:d+e≤5000,∀h:20000≤c,∀h:a=d,∀h:b=e,a+b≤c:=le [c,a,b,d,e] (A v1 v2) v0 (L (A v3 v4) (n 5000)<|L (n 20000) v0<|E v1 v3<|E v2 v4 o)
theorem CC(h0:c+d≤5000)(h1:20000≤b)(h2:a=c)(h3:e=d):a≤b:=le [b,a,c,d] v1 v0 (L (A v2 v3) (n 5000)<|L (n 20000) v0<|E v1 v2 o) h0 h1 h2
theorem Vo:∀h:d+e≤5000,∀h:20000≤c,∀h:a=d,∀h:b=e,a+b≤c+1:=le [c,a,b,d,e] (A v1 v2) (S v0) (L (A v3 v4) (n 5000)<|L (n 20000) v0<|E v1 v3<|E v2 v4 o)
theorem RY:∀h:a+9<b,a+1+8<b:=le [b,a] (S (A (S v1) (n 8))) v0 (L (S (A v1 (n 9))) v0 o)
theorem RZ:∀h:a+10*c+300<b,a+9<b:=le [b,a,c] (S (A v1 (n 9))) v0 (L (S (A (A v1 (M 10 v2)) (n 300))) v0 o)
theorem Vp:¬((a+1:Nat):Int)=0:=fun h=>Nat.succ_ne_zero a (Int.ofNat.inj h)
theorem Vq:∀h:20000≤b,∀h:a≤5000,a+2≤b:=le [b,a] (A v1 (n 2)) v0 (L (n 20000) v0<|L v1 (n 5000) o)
theorem Vr:∀h:a=b,∀h:b≤5000,a≤16384:=le [a,b] v0 (n 16384) (E v0 v1<|L v1 (n 5000) o)
theorem Vs:(a:Int)=(a:Int)-(0:Int):=(Int.sub_zero _).symm
theorem Vt:(a:Int)-(b:Int)=((a+1:Nat):Int)-((b+1:Nat):Int):=(Int.add_sub_add_right (a:Int) 1 (b:Int)).symm
theorem R0:(max 0 (min (a:Int) (b:Int)))=((min a b:Nat):Int):=(Int.max_eq_right (Int.le_min.mpr ⟨Int.natCast_nonneg _,Int.natCast_nonneg _⟩)).trans ((Nat.le_total a b).elim (fun h=>by rw [Nat.min_eq_left h,Int.min_eq_left (Int.ofNat_le.mpr h)]) fun h=>by rw [Nat.min_eq_right h,Int.min_eq_right (Int.ofNat_le.mpr h)])
theorem Vu:a-b≤a-min b a:=Nat.sub_le_sub_left (Nat.min_le_left _ _) _
theorem Vv:∀h:a+10*c+300<b,a<b:=le [b,a,c] (S v1) v0 (L (S (A (A v1 (M 10 v2)) (n 300))) v0 o)
theorem R1:∀h:a+10*c+300<b,a+1+8<b:=le [b,a,c] (S (A (S v1) (n 8))) v0 (L (S (A (A v1 (M 10 v2)) (n 300))) v0 o)
theorem Vw:∀h:a+10*c+300<b,a+2<b:=le [b,a,c] (S (A v1 (n 2))) v0 (L (S (A (A v1 (M 10 v2)) (n 300))) v0 o)
theorem Vx:∀h:a+10*c+300<b,a+1+2<b:=le [b,a,c] (S (A (S v1) (n 2))) v0 (L (S (A (A v1 (M 10 v2)) (n 300))) v0 o)
theorem Vy:∀h:a+10*c+300<b,a+1+1+8<b:=le [b,a,c] (S (A (S (S v1)) (n 8))) v0 (L (S (A (A v1 (M 10 v2)) (n 300))) v0 o)
theorem R2:∀h:a+(c+1)<b,a<b:=le [b,a,c] (S v1) v0 (L (S (A v1 (S v2))) v0 o)
theorem Vz(h0:0≤a∧a<0+b)(h1:b=c):a<b:=le [b,a] (S v1) v0 (L (S v1) (A n0 v0) o) h0.2
theorem R3(h0:c=d)(h1:a=e)(h2:b=f)(h3:e=c)(h4:f=d):a=b:=an (le [b,a,c,d,e,f] v1 v0 (E v2 v3<|E v1 v4<|F v0 v5<|E v4 v2<|F v5 v3 o) h0 h1 h2 h3 h4) (le [a,b,c,d,e,f] v1 v0 (F v2 v3<|F v0 v4<|E v1 v5<|F v4 v2<|E v5 v3 o) h0 h1 h2 h3 h4)
theorem VA:∀h:a+2<b,a+1+1<b:=le [b,a] (S (S (S v1))) v0 (L (S (A v1 (n 2))) v0 o)
theorem VB:∀h:a+2<b,a<b:=le [b,a] (S v1) v0 (L (S (A v1 (n 2))) v0 o)
theorem QF:((a+1:Nat):Int)≠0:=fun h=>Nat.succ_ne_zero a (Int.ofNat.inj h)
theorem VC:∀h:a<20,a+0+0<30:=le [a] (S (A (A v0 n0) n0)) (n 30) (L (S v0) (n 20) o)
theorem R4(h0:a<1000000):((a+1:Nat):Int)≠0:=fun h=>Nat.succ_ne_zero a (Int.ofNat.inj h)
theorem R5:∀h:a+(b+1)<c,a+1+b<c:=le [c,a,b] (S (A (S v1) v2)) v0 (L (S (A v1 (S v2))) v0 o)
theorem VD:∀h:a+10*(b+1)+300<c,a+1+10*b+300<c:=le [c,a,b] (S (A (A (S v1) (M 10 v2)) (n 300))) v0 (L (S (A (A v1 (M 10 (S v2))) (n 300))) v0 o)
theorem VF:∀h:a+(b+1)<17,a+1<17:=le [a,b] (S (S v0)) (n 17) (L (S (A v0 (S v1))) (n 17) o)
theorem VG:∀h:a+(b+1)<17,a+1+b<17:=le [a,b] (S (A (S v0) v1)) (n 17) (L (S (A v0 (S v1))) (n 17) o)
theorem VH:∀h:a+1<17,a+1≠17:=no [a] (L (S (S v0)) (n 17)<|F (S v0) (n 17) o)
theorem VI:∀h:a<17,0+a<17:=le [a] (S (A n0 v0)) (n 17) (L (S v0) (n 17) o)
theorem VJ:∀h:a=c,∀h:c≤b,a≤b:=le [b,a,c] v1 v0 (E v1 v2<|L v2 v0 o)
theorem R6(h0:b<a):a-b=a-(b+1)+1:=an (le [a -(b+1),a -b,b,a] v1 (S v0) (E (A v1 v2) v3<|F (A v0 (S v2)) v3 o) (sc (le [a,b] v1 v0 (L (S v1) v0 o) h0)) (sc (le [a,b] (S v1) v0 (L (S v1) v0 o) h0))) (le [a -b,a -(b+1),b,a] (S v1) v0 (F (A v0 v2) v3<|E (A v1 (S v2)) v3 o) (sc (le [a,b] v1 v0 (L (S v1) v0 o) h0)) (sc (le [a,b] (S v1) v0 (L (S v1) v0 o) h0)))
theorem VK(h0:c+d≤b)(h1:e<f)(h2:d=f)(h3:a≤c+min e d):a≤b:=le [b,a,c,d,min e d] v1 v0 (L (A v2 v3) v0<|L v1 (A v2 v4)<|L v4 v3 o) h0 h3 (Nat.min_le_right _ _)
theorem VL:∀h:a+(c+1)≤30,∀h:20000≤b,a≤b:=le [b,a,c] v1 v0 (L (A v1 (S v2)) (n 30)<|L (n 20000) v0 o)
theorem VN:∀h:c+(b+1)≤30,∀h:a≤c+1,a+b≤30:=le [a,b,c] (A v0 v1) (n 30) (L (A v2 (S v1)) (n 30)<|L v0 (S v2) o)
theorem VO(h0:a≤5000):(a:Int)<9223372036854775808:=Int.ofNat_lt.mpr (Nat.lt_of_le_of_lt h0 (by decide:5000<9223372036854775808))
theorem Lq:¬(0≤((-(a:Int)) -1)):=Int.not_le.mpr (Int.sub_one_lt_of_le (Int.neg_nonpos_of_nonneg (Int.natCast_nonneg a)))
theorem QG(h0:b<a):a+1-(b+1)<a+1-b:=le [(a+1) -b,(a+1) -(b+1),b,a] (S v1) v0 (E (A v1 (S v2)) (S v3)<|F (A v0 v2) (S v3) o) (sc (le [a,b] (S v1) (S v0) (L (S v1) v0 o) h0)) (sc (le [a,b] v1 (S v0) (L (S v1) v0 o) h0))
theorem VP:∀h:20000≤b,∀h:c<d,∀h:d≤5000,∀h:a≤c,a≤b:=le [b,a,c,d] v1 v0 (L (n 20000) v0<|L (S v2) v3<|L v3 (n 5000)<|L v1 v2 o)
theorem VQ(h0:a%2=1)(h1:a<b+1):a/2<b:=Nat.lt_of_not_le fun g=>no [b,a/2,a%2,a] (.l 2 v0 v1<|F v2 n1<|.l 2 (S v3) (S v0)<|E (A (M 2 v1) v2) v3 o) g h0 h1 (oi a 2)
theorem VR(h0:b%2=1)(h1:a%2=1)(h2:¬a=b):¬a/2=b/2:=fun g0=>Or.elim (uS h2) (fun s1=>no [b%2,a%2,a/2,b/2,a,b] (E v0 n1<|F v1 n1<|.f 2 v2 v3<|L (S v4) v5<|F (A (M 2 v3) v0) v5<|E (A (M 2 v2) v1) v4 o) h0 h1 g0 s1 (oi b 2) (oi a 2)) fun s1=>no [b%2,a%2,a/2,b/2,b,a] (F v0 n1<|E v1 n1<|.e 2 v2 v3<|L (S v4) v5<|E (A (M 2 v3) v0) v4<|F (A (M 2 v2) v1) v5 o) h0 h1 g0 s1 (oi b 2) (oi a 2)
theorem VT(h0:a<b+1)(h1:¬a%2=1)(h2:¬a=0):a/2-1<b:=Or.elim (uS h1) (fun s0=>Or.elim (uS h2) (fun s1=>Nat.lt_of_not_le fun g=>no [a] (L (S v0) n0 o) s1) fun s1=>le [b,(a/2) -1,a,a/2,a%2] (S v1) v0 (L (S v2) (S v0)<|E (A (M 2 v3) v4) v2<|E (S v1) v3 o) h0 (oi a 2) (sc (je fun g=>no [a/2,a%2,a] (.l 2 (S v0) n1<|L (S v1) n1<|L (S n0) v2<|F (A (M 2 v0) v1) v2 o) g s0 s1 (oi a 2)))) fun s0=>Nat.lt_of_not_le fun g=>no [a%2] (L (S n1) v0<|L (S v0) (n 2) o) s0 (Nat.mod_lt a (by decide))
theorem VU(h0:¬b%2=1)(h1:¬a%2=1)(h2:¬b=0)(h3:¬a=0)(h4:¬a=b):¬a/2-1=b/2-1:=fun g0=>Or.elim (uS h0) (fun s1=>Or.elim (uS h1) (fun s2=>Or.elim (uS h2) (fun s3=>no [b] (L (S v0) n0 o) s3) fun s3=>Or.elim (uS h3) (fun s4=>no [a] (L (S v0) n0 o) s4) fun s4=>Or.elim (uS h4) (fun s5=>no [(a/2) -1,(b/2) -1,b%2,a,b,a/2,a%2,b/2] (.f 2 v0 v1<|L (S v2) n1<|L (S v3) v4<|E (A (M 2 v5) (v 6)) v3<|F (A (M 2 (v 7)) v2) v4<|.e 2 (S v0) v5<|.f 2 (S v1) (v 7) o) g0 s1 s5 (oi a 2) (oi b 2) (sc (je fun g=>no [a/2,a%2,a] (.l 2 (S v0) n1<|L (S v1) n1<|L (S n0) v2<|F (A (M 2 v0) v1) v2 o) g s2 s4 (oi a 2))) (sc (je fun g=>no [b/2,b%2,b] (.l 2 (S v0) n1<|L (S v1) n1<|L (S n0) v2<|F (A (M 2 v0) v1) v2 o) g s1 s3 (oi b 2)))) fun s5=>no [(a/2) -1,(b/2) -1,a%2,b,a,a/2,b/2,b%2] (.e 2 v0 v1<|L (S v2) n1<|L (S v3) v4<|F (A (M 2 v5) v2) v4<|E (A (M 2 (v 6)) (v 7)) v3<|.f 2 (S v0) v5<|.e 2 (S v1) (v 6) o) g0 s2 s5 (oi a 2) (oi b 2) (sc (je fun g=>no [a/2,a%2,a] (.l 2 (S v0) n1<|L (S v1) n1<|L (S n0) v2<|F (A (M 2 v0) v1) v2 o) g s2 s4 (oi a 2))) (sc (je fun g=>no [b/2,b%2,b] (.l 2 (S v0) n1<|L (S v1) n1<|L (S n0) v2<|F (A (M 2 v0) v1) v2 o) g s1 s3 (oi b 2)))) fun s2=>no [a%2] (L (S n1) v0<|L (S v0) (n 2) o) s2 (Nat.mod_lt a (by decide))) fun s1=>no [b%2] (L (S n1) v0<|L (S v0) (n 2) o) s1 (Nat.mod_lt b (by decide))
theorem VV:0≤((a+1:Nat):Int):=Int.natCast_nonneg _
theorem VW:a=b↔(a:Int)=(b:Int):=Int.ofNat_inj.symm
theorem VX:∀h:a+10*(b+1)+300<c,a+3+10*b+300<c:=le [c,a,b] (S (A (A (A v1 (n 3)) (M 10 v2)) (n 300))) v0 (L (S (A (A v1 (M 10 (S v2))) (n 300))) v0 o)
theorem VY:∀h:a+(c+1)<b,a+1<b:=le [b,a,c] (S (S v1)) v0 (L (S (A v1 (S v2))) v0 o)
theorem R8:¬a=a+1+b:=no [a,b] (F v0 (A (S v0) v1) o)
theorem R9:∀h:a<b,¬a=b+1+c:=no [a,b,c] (L (S v0) v1<|F v0 (A (S v1) v2) o)
theorem VZ(h0:¬b=c):¬a+1+b=a+1+c:=fun g0=>Or.elim (uS h0) (fun s1=>no [a,b,c] (F (A (S v0) v1) (A (S v0) v2)<|L (S v1) v2 o) g0 s1) fun s1=>no [a,b,c] (E (A (S v0) v1) (A (S v0) v2)<|L (S v2) v1 o) g0 s1
theorem V3(h0:a<b+(0+1))(h1:¬a=b):a<b:=Or.elim (uS h1) (fun s0=>le [b,a] (S v1) v0 (L (S v1) v0 o) s0) fun s0=>Nat.lt_of_not_le fun g=>no [a,b] (L (S v0) (A v1 (S n0))<|L (S v1) v0 o) h0 s0
theorem V4:¬a+1+b=a:=no [a,b] (E (A (S v0) v1) v0 o)
theorem HE:∀h:a<b,¬a=b:=no [a,b] (L (S v0) v1<|F v0 v1 o)
theorem V5(h0:¬c=b):¬a+1+b=a+1+c:=fun g0=>Or.elim (uS h0) (fun s1=>no [a,b,c] (E (A (S v0) v1) (A (S v0) v2)<|L (S v2) v1 o) g0 s1) fun s1=>no [a,b,c] (F (A (S v0) v1) (A (S v0) v2)<|L (S v1) v2 o) g0 s1
theorem R_:∀h:a≤b,a+1≤b+1:=le [b,a] (S v1) (S v0) (L v1 v0 o)
theorem V6(h0:a=0∨a=1∨a=2∨a=3∨a=4∨a=5∨a=6∨a=10∨a=11∨a=13∨a=15∨a=17):a≤17:=pG (J0 (p:=fun x=>Nat.ble x 17) (l:=[0,1,2,3,4,5,6,10,11,13,15,17]) rfl h0)
theorem V7(h0:a<55∧b≤9)(h1:c≤17):8+10*(a+1)+b≠c:=fun g=>no [a,b,c] (E (A (A (n 8) (M 10 (S v0))) v1) v2<|L v2 (n 17) o) g h1
theorem V8:∀h:a≤17,a≠8+10*(b+1)+c:=no [a,b,c] (L v0 (n 17)<|F v0 (A (A (n 8) (M 10 (S v1))) v2) o)
theorem V9(h0:8+10*(a+1)+c=8+10*(b+1)+d)(h1:b<55∧d≤9)(h2:a<55∧c≤9):a=b:=an (je fun g=>no [b,a,c,d] (.l 10 (S v0) v1<|E (A (A (n 8) (M 10 (S v1))) v2) (A (A (n 8) (M 10 (S v0))) v3)<|L v3 (n 9) o) g h0 h1.2) (je fun g=>no [a,b,c,d] (.l 10 (S v0) v1<|F (A (A (n 8) (M 10 (S v0))) v2) (A (A (n 8) (M 10 (S v1))) v3)<|L v2 (n 9) o) g h0 h2.2)
theorem V_(h0:8+10*(c+1)+a=8+10*(c+1)+b):a=b:=an (le [b,a,c] v1 v0 (E (A (A (n 8) (M 10 (S v2))) v1) (A (A (n 8) (M 10 (S v2))) v0) o) h0) (le [a,b,c] v1 v0 (F (A (A (n 8) (M 10 (S v2))) v0) (A (A (n 8) (M 10 (S v2))) v1) o) h0)
theorem QH(h0:¬b<a):a≤b:=le [b,a] v1 v0 (L v1 v0 o) (je h0)
theorem Sf(h0:c=a)(h1:¬b<c):a≤b:=le [b,a,c] v1 v0 (F v2 v1<|L v2 v0 o) h0 (je h1)
theorem Sg:∀h:a+9<b,a<b:=le [b,a] (S v1) v0 (L (S (A v1 (n 9))) v0 o)
theorem Sh(h0:a+9<c)(h1:1≤b)(h2:b≤9):a+b<c:=le [c,a,b] (S (A v1 v2)) v0 (L (S (A v1 (n 9))) v0<|L v2 (n 9) o) h0 h2
theorem Wc(h0:a-c=0)(h1:c=b)(h2:¬a<c):a=b:=an (le [b,a,a -c,c] v1 v0 (E v2 n0<|E v3 v0<|F (A v2 v3) v1 o) h0 h1 (sc (le [a,c] v1 v0 (L v1 v0 o) (je h2)))) (le [a,b,c] v1 v0 (F v2 v1<|L v2 v0 o) h1 (je h2))
theorem QI:a+1+b=a+(b+1):=an (le [a,b] (A (S v0) v1) (A v0 (S v1)) o) (le [a,b] (A v0 (S v1)) (A (S v0) v1) o)
theorem FN:∀h:a<55,a+1<64:=le [a] (S (S v0)) (n 64) (L (S v0) (n 55) o)
theorem QJ(h0:a<55):1≤a+1:=le [a] n1 (S v0) o
theorem QK:∀h:a<55,a+1≤55:=le [a] (S v0) (n 55) (L (S v0) (n 55) o)
theorem We:∀h:a≤10+b,∀h:b≤8,a≤5000:=le [a,b] v0 (n 5000) (L v0 (A (n 10) v1)<|L v1 (n 8) o)
theorem QL:a%2=0∨a%2=1:=Nat.mod_two_eq_zero_or_one a
theorem Lr:a%2≤5000:=le [a%2] v0 (n 5000) (L (S v0) (n 2) o) (Nat.mod_lt a (by decide))
theorem cM:∀h:a<55,a+1≤5000:=le [a] (S v0) (n 5000) (L (S v0) (n 55) o)
theorem Si(h0:256≤b∧b≤256+c)(h1:a=b)(h2:c≤8):a≤5000:=le [a,b,c] v0 (n 5000) (L v1 (A (n 256) v2)<|E v0 v1<|L v2 (n 8) o) h0.2 h1 h2
theorem qo:8+10*(a+1)≠17:=no [a] (E (A (n 8) (M 10 (S v0))) (n 17) o)
theorem Nn:8+10*(a+1)+6≠17:=no [a] (E (A (A (n 8) (M 10 (S v0))) (n 6)) (n 17) o)
theorem zZ(h0:a<55):0≠8+10*(a+1)+6:=fun g=>no [a] (F n0 (A (A (n 8) (M 10 (S v0))) (n 6)) o) g
theorem z0:17≠8+10*(a+1)+6:=no [a] (F (n 17) (A (A (n 8) (M 10 (S v0))) (n 6)) o)
theorem z4(h0:a<55):13≠8+10*(a+1)+6:=fun g=>no [a] (F (n 13) (A (A (n 8) (M 10 (S v0))) (n 6)) o) g
theorem Cu(h0:a<55):a+1≠0:=fun g=>no [a] (E (S v0) n0 o) g
theorem Np(h0:¬a%65<64):63<a%65:=le [a%65] (S (n 63)) v0 (L (n 64) v0 o) (je h0)
theorem Fw:∀h:a%65<64,¬63<a%65:=no [a%65] (L (S v0) (n 64)<|L (S (n 63)) v0 o)
theorem xF:∀h:a%65<64,a%65≤5000:=le [a%65] v0 (n 5000) (L (S v0) (n 64) o)
theorem Nq(h0:a<55):0≠8+10*(a+1)+5:=fun g=>no [a] (F n0 (A (A (n 8) (M 10 (S v0))) (n 5)) o) g
theorem Nr:15≠8+10*(a+1)+5:=no [a] (F (n 15) (A (A (n 8) (M 10 (S v0))) (n 5)) o)
theorem Cv(h0:64≤c∧c≤64+d)(h1:a%65<64)(h2:b=c)(h3:d≤8):a%65<b:=le [b,a%65,c] (S v1) v0 (L (n 64) v2<|L (S v1) (n 64)<|F v0 v2 o) h0.1 h1 h2
theorem I_(h0:1≤a∧a≤1+b)(h1:b≤8):a≤5000:=le [a,b] v0 (n 5000) (L v0 (A n1 v1)<|L v1 (n 8) o) h0.2 h1
theorem Ja(h0:1≤a∧a≤1+b)(h1:b≤8):a+1≤5000:=le [a,b] (S v0) (n 5000) (L v0 (A n1 v1)<|L v1 (n 8) o) h0.2 h1
theorem Nt(h0:0=254+a%3):False:=no [a%3] (F n0 (A (n 254) v0) o) h0
theorem Nu(h0:254+a%3<256)(h1:256≤b)(h2:b=254+a%3):False:=no [a%3,b] (L (S (A (n 254) v0)) (n 256)<|L (n 256) v1<|E v1 (A (n 254) v0) o) h0 h1 h2
theorem Nv(h0:¬254+a%3<256):255<254+a%3:=le [a%3] (S (n 255)) (A (n 254) v0) (L (n 256) (A (n 254) v0) o) (je h0)
theorem qt:∀h:254+a%3<256,¬255<254+a%3:=no [a%3] (L (S (A (n 254) v0)) (n 256)<|L (S (n 255)) (A (n 254) v0) o)
theorem lG:∀h:254+a%3<256,254+a%3≤5000:=le [a%3] (A (n 254) v0) (n 5000) (L (S (A (n 254) v0)) (n 256) o)
theorem Jb(h0:64≤b∧b≤64+c)(h1:a=b)(h2:c≤8):a≤5000:=le [a,b,c] v0 (n 5000) (L v1 (A (n 64) v2)<|E v0 v1<|L v2 (n 8) o) h0.2 h1 h2
theorem Nx:8+10*(a+1)≠15:=no [a] (E (A (n 8) (M 10 (S v0))) (n 15) o)
theorem Ny:8+10*(a+1)+5≠15:=no [a] (E (A (A (n 8) (M 10 (S v0))) (n 5)) (n 15) o)
theorem Cw(h0:254+a%3<256)(h1:256≤c∧c≤256+d)(h2:b=c)(h3:d≤8):254+a%3<b:=le [b,a%3,c] (S (A (n 254) v1)) v0 (L (S (A (n 254) v1)) (n 256)<|L (n 256) v2<|F v0 v2 o) h0 h1.1 h2
theorem Cy(h0:a<55):0≠8+10*(a+1):=fun g=>no [a] (F n0 (A (n 8) (M 10 (S v0))) o) g
theorem Cz:17≠8+10*(a+1):=no [a] (F (n 17) (A (n 8) (M 10 (S v0))) o)
theorem CA:13≠8+10*(a+1):=no [a] (F (n 13) (A (n 8) (M 10 (S v0))) o)
theorem Jc:∀h:a<b,a<b+2:=le [b,a] (S v1) (A v0 (n 2)) (L (S v1) v0 o)
theorem Jd:∀h:a<b,¬a=b+1:=no [a,b] (L (S v0) v1<|F v0 (S v1) o)
theorem Nz:a+2+9<a+12:=le [a] (S (A (A v0 (n 2)) (n 9))) (A v0 (n 12)) o
theorem Fy:∀h:a≤10+b,a≤10+(b+1):=le [b,a] v1 (A (n 10) (S v0)) (L v1 (A (n 10) v0) o)
theorem Je(h0:64≤a∧a≤64+b):a≤64+(b+1):=le [b,a] v1 (A (n 64) (S v0)) (L v1 (A (n 64) v0) o) h0.2
theorem Jf(h0:256≤a∧a≤256+b):a≤256+(b+1):=le [b,a] v1 (A (n 256) (S v0)) (L v1 (A (n 256) v0) o) h0.2
theorem NB:∀h:a≤55+b,a≤55+(b+1):=le [b,a] v1 (A (n 55) (S v0)) (L v1 (A (n 55) v0) o)
theorem ND(h0:1≤a∧a≤1+b):a≤1+(b+1):=le [b,a] v1 (A n1 (S v0)) (L v1 (A n1 v0) o) h0.2
theorem NF:∀h:a≤b,a≤b+1:=le [b,a] v1 (S v0) (L v1 v0 o)
theorem NG:∀h:a≤10+b,a+1≤10+(b+1):=le [b,a] (S v1) (A (n 10) (S v0)) (L v1 (A (n 10) v0) o)
theorem NH:∀h:12≤a,8≠a+2:=no [a] (L (n 12) v0<|F (n 8) (A v0 (n 2)) o)
theorem NI:∀h:12≤a,5≠a+2:=no [a] (L (n 12) v0<|F (n 5) (A v0 (n 2)) o)
theorem NJ(h0:64≤a∧a≤64+c):64≤a+b:=le [a,b] (n 64) (A v0 v1) (L (n 64) v0 o) h0.1
theorem Jg(h0:b%4=a):a<4:=le [a,b%4] (S v0) (n 4) (F v1 v0<|L (S v1) (n 4) o) h0 (Nat.mod_lt b (by decide))
theorem NK(h0:64≤a∧a≤64+b):a+1≤64+(b+1):=le [b,a] (S v1) (A (n 64) (S v0)) (L v1 (A (n 64) v0) o) h0.2
theorem NL(h0:a=1∨a=2∨a=3∨a=5∨a=7∨a=8):a≤8:=pG (J0 (p:=fun x=>Nat.ble x 8) (l:=[1,2,3,5,7,8]) rfl h0)
theorem NN(h0:256≤a∧a≤256+c):256≤a+b:=le [a,b] (n 256) (A v0 v1) (L (n 256) v0 o) h0.1
theorem NO(h0:d<55∧b≤9)(h1:12≤a)(h2:c≤8):a+b≠c:=fun g=>no [a,b,c] (E (A v0 v1) v2<|L (n 12) v0<|L v2 (n 8) o) g h1 h2
theorem NP(h0:256≤a∧a≤256+b):a+1≤256+(b+1):=le [b,a] (S v1) (A (n 256) (S v0)) (L v1 (A (n 256) v0) o) h0.2
theorem NQ(h0:d<55∧c≤9)(h1:12≤b)(h2:a≤8):a≠b+c:=fun g=>no [a,b,c] (F v0 (A v1 v2)<|L (n 12) v1<|L v0 (n 8) o) g h1 h2
theorem NR(h0:c+a=c+b):a=b:=an (le [b,a,c] v1 v0 (E (A v2 v1) (A v2 v0) o) h0) (le [a,b,c] v1 v0 (F (A v2 v0) (A v2 v1) o) h0)
theorem NS(h0:a+9<c∨c+9<a)(h1:e<55∧d≤9)(h2:f<55∧b≤9):a+b≠c+d:=fun g0=>Or.elim h0 (fun s1=>no [b,a,c,d] (L v0 (n 9)<|F (A v1 v0) (A v2 v3)<|L (S (A v1 (n 9))) v2 o) h2.2 g0 s1) fun s1=>no [d,a,b,c] (L v0 (n 9)<|E (A v1 v2) (A v3 v0)<|L (S (A v3 (n 9))) v1 o) h1.2 g0 s1
theorem NT(h0:1≤a∧a≤1+c):1≤a+b:=le [a,b] n1 (A v0 v1) (L n1 v0 o) h0.1
theorem NU(h0:b<55∧a+1≤9):1≤a+1:=le [a] n1 (S v0) o
theorem NV(h0:1≤a∧a≤1+b):a+1≤1+(b+1):=le [b,a] (S v1) (A n1 (S v0)) (L v1 (A n1 v0) o) h0.2
theorem Ji(h0:a<9):1≤a+1:=le [a] n1 (S v0) o
theorem Jj:∀h:a<9,a+1≤9:=le [a] (S v0) (n 9) (L (S v0) (n 9) o)
theorem NW:∀h:12≤a,8≠a+3:=no [a] (L (n 12) v0<|F (n 8) (A v0 (n 3)) o)
theorem NX(h0:64≤a∧a≤64+b):64≤a:=le [a] (n 64) v0 (L (n 64) v0 o) h0.1
theorem NY:∀h:12≤a,7≠a+3:=no [a] (L (n 12) v0<|F (n 7) (A v0 (n 3)) o)
theorem NZ(h0:256≤a∧a≤256+b):256≤a:=le [a] (n 256) v0 (L (n 256) v0 o) h0.1
theorem Jk(h0:254+a%3<256):0<254+a%3:=le [a%3] (S n0) (A (n 254) v0) o
theorem FA:∀h:12≤a,a≠7:=no [a] (L (n 12) v0<|E v0 (n 7) o)
theorem iG:∀h:a=64+b,∀h:c≤8,∀h:b≤c,a≤5000:=le [a,b,c] v0 (n 5000) (E v0 (A (n 64) v1)<|L v2 (n 8)<|L v1 v2 o)
theorem N3:((a+(0+1):Nat):Int)-(1:Int)=(a:Int):=Int.add_sub_cancel (a:Int) 1
theorem N4:∀h:12≤a,a≠5:=no [a] (L (n 12) v0<|E v0 (n 5) o)
theorem N5:∀h:12≤a,a+2≠5:=no [a] (L (n 12) v0<|E (A v0 (n 2)) (n 5) o)
theorem N6(h0:64≤a∧a≤64+b)(h1:c=a)(h2:b≤8):a+1≤5000:=le [a,b] (S v0) (n 5000) (L v0 (A (n 64) v1)<|L v1 (n 8) o) h0.2 h2
theorem Jl:∀h:a≤10+b,∀h:b≤8,a+1≤5000:=le [a,b] (S v0) (n 5000) (L v0 (A (n 10) v1)<|L v1 (n 8) o)
theorem N7:∀h:a≤9,a<10:=le [a] (S v0) (n 10) (L v0 (n 9) o)
theorem N8:∀h:12≤a,a+3≠7:=no [a] (L (n 12) v0<|E (A v0 (n 3)) (n 7) o)
theorem N9(h0:256≤a∧a≤256+b)(h1:c=a)(h2:b≤8):a+1≤5000:=le [a,b] (S v0) (n 5000) (L v0 (A (n 256) v1)<|L v1 (n 8) o) h0.2 h2
theorem N_:∀h:12≤b,a+2+9<a+b:=le [a,b] (S (A (A v0 (n 2)) (n 9))) (A v0 v1) (L (n 12) v1 o)
theorem r7:∀h:12≤a,a≠1:=no [a] (L (n 12) v0<|E v0 n1 o)
theorem FD:a+1+b+c=a+1+c+b:=an (le [a,c,b] (A (A (S v0) v2) v1) (A (A (S v0) v1) v2) o) (le [a,b,c] (A (A (S v0) v2) v1) (A (A (S v0) v1) v2) o)
theorem Oa:∀h:a+(c+1)=b,a<b:=le [b,a,c] (S v1) v0 (E (A v1 (S v2)) v0 o)
theorem FE:a+1+b+c=a+c+b+1:=an (le [a,c,b] (A (A (S v0) v2) v1) (S (A (A v0 v1) v2)) o) (le [a,b,c] (S (A (A v0 v2) v1)) (A (A (S v0) v1) v2) o)
theorem Ob(h0:a+(b+1)=c):a+1+b=c:=an (le [c,a,b] (A (S v1) v2) v0 (E (A v1 (S v2)) v0 o) h0) (le [a,b,c] v2 (A (S v0) v1) (F (A v0 (S v1)) v2 o) h0)
theorem Oc:∀h:a<64,a<64:=le [a] (S v0) (n 64) (L (S v0) (n 64) o)
theorem Od(h0:a=0∨55<a)(h1:a<64):¬(1≤a∧a≤55):=fun g0=>Or.elim h0 (fun s1=>no [a] (L n1 v0<|E v0 n0 o) g0.1 s1) fun s1=>no [a] (L v0 (n 55)<|L (S (n 55)) v0 o) g0.2 s1
theorem Oe(h0:1≤a)(h1:a≤6)(h2:a≤9):a+2<9:=le [a] (S (A v0 (n 2))) (n 9) (L v0 (n 6) o) h1
theorem Og(h0:1≤a)(h1:a≤9)(h2:¬a≤6):a-5=a-6+1:=an (le [a -6,a -5,a] v1 (S v0) (E (A v1 (n 5)) v2<|F (A v0 (n 6)) v2 o) (sc (le [a] (n 5) v0 (L (S (n 6)) v0 o) (Nat.lt_of_not_le h2))) (sc (le [a] (n 6) v0 (L (S (n 6)) v0 o) (Nat.lt_of_not_le h2)))) (le [a -5,a -6,a] (S v1) v0 (F (A v0 (n 5)) v2<|E (A v1 (n 6)) v2 o) (sc (le [a] (n 5) v0 (L (S (n 6)) v0 o) (Nat.lt_of_not_le h2))) (sc (le [a] (n 6) v0 (L (S (n 6)) v0 o) (Nat.lt_of_not_le h2))))
theorem Oh(h0:1≤a)(h1:a≤9)(h2:¬a≤6):a-6<9:=le [a -6,a] (S v0) (n 9) (L v1 (n 9)<|E (A v0 (n 6)) v1 o) h1 (sc (le [a] (n 6) v0 (L (S (n 6)) v0 o) (Nat.lt_of_not_le h2)))
theorem Oi:∀h:a<64+c,∀h:b=64+c,a<b:=le [b,a,c] (S v1) v0 (L (S v1) (A (n 64) v2)<|F v0 (A (n 64) v2) o)
theorem Oj(h0:a<64+b)(h1:c=64+b)(h2:d≤8)(h3:b≤d):a≤5000:=le [a,b,d] v0 (n 5000) (L (S v0) (A (n 64) v1)<|L v2 (n 8)<|L v1 v2 o) h0 h2 h3
theorem Ol(h0:a<64)(h1:¬(a=0∨55<a)):a=a-1+1:=Or.elim (uS (fun x=>h1 (.inl x))) (fun s0=>an (je fun g=>no [a] (L (S v0) n0 o) s0) (je fun g=>no [a] (L (S v0) n0 o) s0)) fun s0=>an (le [a -1,a] v1 (S v0) (F (S v0) v1 o) (sc (le [a] n1 v0 (L (S n0) v0 o) s0))) (le [a,a -1] (S v1) v0 (E (S v1) v0 o) (sc (le [a] n1 v0 (L (S n0) v0 o) s0)))
theorem Om(h0:a+1<64)(h1:¬(a+1=0∨55<a+1)):a<55:=le [a] (S v0) (n 55) (L (S v0) (n 55) o) (je (fun x=>h1 (.inr x)))
theorem Oo(h0:1≤a)(h1:a≤9):a=a-1+1:=an (le [a -1,a] v1 (S v0) (F (S v0) v1 o) (sc (le [a] n1 v0 (L n1 v0 o) h0))) (le [a,a -1] (S v1) v0 (E (S v1) v0 o) (sc (le [a] n1 v0 (L n1 v0 o) h0)))
theorem Oq(h0:a+1≤9)(h1:1≤a+1):a<9:=le [a] (S v0) (n 9) (L (S v0) (n 9) o) h0
theorem Ot(h0:22≤b)(h1:a<22)(h2:b≤5000):a<b:=le [b,a] (S v1) v0 (L (n 22) v0<|L (S v1) (n 22) o) h0 h1
theorem Ou:∀h:a<22,a≤5000:=le [a] v0 (n 5000) (L (S v0) (n 22) o)
theorem Ov(h0:¬a<64):a=64+(a-64):=an (le [a -64,a] v1 (A (n 64) v0) (F (A v0 (n 64)) v1 o) (sc (le [a] (n 64) v0 (L (n 64) v0 o) (je h0)))) (le [a,a -64] (A (n 64) v1) v0 (E (A v1 (n 64)) v0 o) (sc (le [a] (n 64) v0 (L (n 64) v0 o) (je h0))))
theorem Ow(h0:64+a<64+b)(h1:c=64+b):a<b:=le [b,a] (S v1) v0 (L (S (A (n 64) v1)) (A (n 64) v0) o) h0
theorem Jm(h0:64+a<64+c)(h1:d=64+c)(h2:b=c):a<b:=le [b,a,c] (S v1) v0 (L (S (A (n 64) v1)) (A (n 64) v2)<|F v0 v2 o) h0 h2
theorem Ox(h0:22≤a)(h1:a≤5000):16<a:=le [a] (S (n 16)) v0 (L (n 22) v0 o) h0
theorem Jo(h0:b=64+c)(h1:a=64+c)(h2:d≤8)(h3:c≤d):a≤5000:=le [a,c,d] v0 (n 5000) (E v0 (A (n 64) v1)<|L v2 (n 8)<|L v1 v2 o) h1 h2 h3
theorem Oz(h0:c=64+d)(h1:b=64+d)(h2:e≤8)(h3:d≤e):a+398=b+60+(a+337-b)+1:=an (le [b,(a+337) -b,a] (A v2 (n 398)) (S (A (A v0 (n 60)) v1)) (F (A v1 v0) (A v2 (n 337)) o) (sc (le [a,b,d,e] v1 (A v0 (n 337)) (E v1 (A (n 64) v2)<|L v3 (n 8)<|L v2 v3 o) h1 h2 h3))) (le [a,b,(a+337) -b] (S (A (A v1 (n 60)) v2)) (A v0 (n 398)) (E (A v2 v1) (A v0 (n 337)) o) (sc (le [a,b,d,e] v1 (A v0 (n 337)) (E v1 (A (n 64) v2)<|L v3 (n 8)<|L v2 v3 o) h1 h2 h3)))
theorem OA(h0:c+398=d+60+e+1)(h1:a<d)(h2:f=64+b)(h3:d=64+b):a<64+b:=le [b,a,d] (S v1) (A (n 64) v0) (L (S v1) v2<|E v2 (A (n 64) v0) o) h1 h3
theorem CD:0+a=a:=an (le [a] (A n0 v0) v0 o) (le [a] v0 (A n0 v0) o)
theorem OB(h0:b+398=a+60+c+1)(h1:d=64+e)(h2:a=64+e)(h3:f≤8)(h4:e≤f):a≤5000:=le [a,e,f] v0 (n 5000) (E v0 (A (n 64) v1)<|L v2 (n 8)<|L v1 v2 o) h2 h3 h4
theorem OC(h0:b+398=c+60+d+1)(h1:a=64+e)(h2:c=64+e)(h3:f≤8)(h4:e≤f):a≤5000:=le [a,e,f] v0 (n 5000) (E v0 (A (n 64) v1)<|L v2 (n 8)<|L v1 v2 o) h1 h3 h4
theorem OD(h0:64≤a∧a≤64+b)(h1:b≤8):a≤5000:=le [a,b] v0 (n 5000) (L v0 (A (n 64) v1)<|L v1 (n 8) o) h0.2 h1
theorem OE:¬a+1=a+2:=no [a] (F (S v0) (A v0 (n 2)) o)
theorem OG(h0:256≤a∧a≤256+b)(h1:b≤8):a≤5000:=le [a,b] v0 (n 5000) (L v0 (A (n 256) v1)<|L v1 (n 8) o) h0.2 h1
theorem OH:¬a+1=a+3:=no [a] (F (S v0) (A v0 (n 3)) o)
theorem OI:∀h:a=64+c,∀h:b=64+c,a≤b:=le [b,a,c] v1 v0 (E v1 (A (n 64) v2)<|F v0 (A (n 64) v2) o)
theorem FF:a≠a+1:=no [a] (F v0 (S v0) o)
theorem OJ:a≠a+3:=no [a] (F v0 (A v0 (n 3)) o)
theorem OM:a≠a+2:=no [a] (F v0 (A v0 (n 2)) o)
theorem Jp:a+2≠a+1:=no [a] (E (A v0 (n 2)) (S v0) o)
theorem ON:a+2≠a+3:=no [a] (F (A v0 (n 2)) (A v0 (n 3)) o)
theorem OO:a+3≠a+1:=no [a] (E (A v0 (n 3)) (S v0) o)
theorem OP(h0:a<2∨6<a):¬a=6:=fun g0=>Or.elim h0 (fun s1=>no [a] (F v0 (n 6)<|L (S v0) (n 2) o) g0 s1) fun s1=>no [a] (E v0 (n 6)<|L (S (n 6)) v0 o) g0 s1
theorem OQ(h0:a<2∨6<a):¬a=5:=fun g0=>Or.elim h0 (fun s1=>no [a] (F v0 (n 5)<|L (S v0) (n 2) o) g0 s1) fun s1=>no [a] (E v0 (n 5)<|L (S (n 6)) v0 o) g0 s1
theorem OR(h0:a<2∨6<a):¬a=4:=fun g0=>Or.elim h0 (fun s1=>no [a] (F v0 (n 4)<|L (S v0) (n 2) o) g0 s1) fun s1=>no [a] (E v0 (n 4)<|L (S (n 6)) v0 o) g0 s1
theorem OS(h0:a<2∨6<a):¬a=3:=fun g0=>Or.elim h0 (fun s1=>no [a] (F v0 (n 3)<|L (S v0) (n 2) o) g0 s1) fun s1=>no [a] (E v0 (n 3)<|L (S (n 6)) v0 o) g0 s1
theorem OT(h0:a<2∨6<a):¬a=2:=fun g0=>Or.elim h0 (fun s1=>no [a] (F v0 (n 2)<|L (S v0) (n 2) o) g0 s1) fun s1=>no [a] (E v0 (n 2)<|L (S (n 6)) v0 o) g0 s1
theorem OU(h0:a<55):8+10*(a+1)<2∨6<8+10*(a+1):=.inr (le [a] (S (n 6)) (A (n 8) (M 10 (S v0))) o)
theorem OV(h0:a<55):8+10*(a+1)+2<2∨6<8+10*(a+1)+2:=.inr (le [a] (S (n 6)) (A (A (n 8) (M 10 (S v0))) (n 2)) o)
theorem OW:∀h:22≤a,22≤a:=le [a] (n 22) v0 (L (n 22) v0 o)
theorem OX:∀h:0<a,a≠0:=no [a] (L (S n0) v0<|E v0 n0 o)
theorem OY(h0:a-b=0)(h1:¬a<b):a=b:=an (le [b,a,a -b] v1 v0 (E v2 n0<|F (A v2 v0) v1 o) h0 (sc (le [a,b] v1 v0 (L v1 v0 o) (je h1)))) (le [a,b] v1 v0 (L v1 v0 o) (je h1))
theorem r8(h0:a<55):0<a+1:=le [a] (S n0) (S v0) o
theorem uv:∀h:22≤a,a≠0:=no [a] (L (n 22) v0<|E v0 n0 o)
theorem uw:∀h:22≤a,a≠14:=no [a] (L (n 22) v0<|E v0 (n 14) o)
theorem OZ:∀h:a<16,a<22:=le [a] (S v0) (n 22) (L (S v0) (n 16) o)
theorem O1:∀h:a<16,a<16:=le [a] (S v0) (n 16) (L (S v0) (n 16) o)
theorem O2:∀h:a=b,∀h:b≤9,a≤5000:=le [a,b] v0 (n 5000) (E v0 v1<|L v1 (n 9) o)
theorem O3:1≤a+1:=le [a] n1 (S v0) o
theorem O4(h0:d=c)(h1:a≤b+c):a≤b+(c+1):=le [b,c,a] v2 (A v0 (S v1)) (L v2 (A v0 v1) o) h1
theorem Jq(h0:b=a)(h1:a≤9):0<a+1:=le [a] (S n0) (S v0) o
theorem z5(h0:b=c)(h1:a≤d+c)(h2:c≤9)(h3:d≤99):22+a≤5000:=le [a,d,c] (A (n 22) v0) (n 5000) (L v0 (A v1 v2)<|L v2 (n 9)<|L v1 (n 99) o) h1 h2 h3
theorem Jr:∀h:16≤a,¬a<16:=no [a] (L (n 16) v0<|L (S v0) (n 16) o)
theorem n8:∀h:a=22+b,∀h:b≤99,a≤5000:=le [a,b] v0 (n 5000) (E v0 (A (n 22) v1)<|L v1 (n 99) o)
theorem O5(h0:d=c)(h1:a≤b+c):a+1≤b+(c+1):=le [b,c,a] (S v2) (A v0 (S v1)) (L v2 (A v0 v1) o) h1
theorem CE:∀h:a<b,∀h:b=22+c,∀h:c≤99,a≤5000:=le [a,b,c] v0 (n 5000) (L (S v0) v1<|E v1 (A (n 22) v2)<|L v2 (n 99) o)
theorem Js(h0:a=22+b)(h1:b≤99):16<a:=le [a,b] (S (n 16)) v0 (F v0 (A (n 22) v1) o) h0
theorem O6:a+(b+1)+90=a+b+90+1:=an (le [a,b] (A (A v0 (S v1)) (n 90)) (S (A (A v0 v1) (n 90))) o) (le [a,b] (S (A (A v0 v1) (n 90))) (A (A v0 (S v1)) (n 90)) o)
theorem O7(h0:1≤a)(h1:a≤11):a<16:=le [a] (S v0) (n 16) (L v0 (n 11) o) h1
theorem O8(h0:1≤a)(h1:a≤11):¬a<1:=fun g=>no [a] (L (S v0) n1<|L n1 v0 o) g h0
theorem O9(h0:1≤a)(h1:a≤11):¬11<a:=fun g=>no [a] (L (S (n 11)) v0<|L v0 (n 11) o) g h1
theorem O_(h0:19<a+1)(h1:a<55):¬a+1<9:=fun g=>no [a] (L (S (S v0)) (n 9)<|L (S (n 19)) (S v0) o) g h0
theorem FH(h0:a=22+b)(h1:b≤99):12<a:=le [a,b] (S (n 12)) v0 (F v0 (A (n 22) v1) o) h0
theorem Jt:∀h:a<b,a≠b:=no [a,b] (L (S v0) v1<|F v0 v1 o)
theorem Pa:¬a=a+1:=no [a] (F v0 (S v0) o)
theorem z6:∀h:a≤99,22+a≤5000:=le [a] (A (n 22) v0) (n 5000) (L v0 (n 99) o)
theorem lH:∀h:a<22+b,∀h:b≤99,a≤5000:=le [a,b] v0 (n 5000) (L (S v0) (A (n 22) v1)<|L v1 (n 99) o)
theorem Pb(h0:16≤a)(h1:a<22)(h2:b=22+c)(h3:c≤99):a<b:=le [b,a,c] (S v1) v0 (L (S v1) (n 22)<|F v0 (A (n 22) v2) o) h1 h2
theorem Pc(h0:16≤a)(h1:a<22):a≤5000:=le [a] v0 (n 5000) (L (S v0) (n 22) o) h1
theorem Pd(h0:16≤a)(h1:a<22):a<22:=le [a] (S v0) (n 22) (L (S v0) (n 22) o) h1
theorem Pe(h0:a=22+b)(h1:b≤99):13<a:=le [a,b] (S (n 13)) v0 (F v0 (A (n 22) v1) o) h0
theorem Pf(h0:a=22+b)(h1:b≤99):0<a:=le [a,b] (S n0) v0 (F v0 (A (n 22) v1) o) h0
theorem FI:∀h:a≤3,a≤5000:=le [a] v0 (n 5000) (L v0 (n 3) o)
theorem Ph(h0:b≤3):a+195=b+60+(a+134-b)+1:=an (le [b,(a+134) -b,a] (A v2 (n 195)) (S (A (A v0 (n 60)) v1)) (F (A v1 v0) (A v2 (n 134)) o) (sc (le [a,b] v1 (A v0 (n 134)) (L v1 (n 3) o) h0))) (le [a,b,(a+134) -b] (S (A (A v1 (n 60)) v2)) (A v0 (n 195)) (E (A v2 v1) (A v0 (n 134)) o) (sc (le [a,b] v1 (A v0 (n 134)) (L v1 (n 3) o) h0)))
theorem Pj(h0:8≤a)(h1:a<55)(h2:b=22+c)(h3:a≤18)(h4:c≤99):a-7<b:=le [b,a -7,c,a] (S v1) v0 (F v0 (A (n 22) v2)<|L v3 (n 18)<|E (A v1 (n 7)) v3 o) h2 h3 (sc (le [a] (n 7) v0 (L (n 8) v0 o) h0))
theorem Pk(h0:8≤a)(h1:a<55)(h2:a≤18):a-7≤5000:=le [a -7,a] v0 (n 5000) (L (S v1) (n 55)<|E (A v0 (n 7)) v1 o) h1 (sc (le [a] (n 7) v0 (L (n 8) v0 o) h0))
theorem Pn(h0:8≤a)(h1:a<55)(h2:a≤18):a-7<16:=le [a -7,a] (S v0) (n 16) (L v1 (n 18)<|E (A v0 (n 7)) v1 o) h2 (sc (le [a] (n 7) v0 (L (n 8) v0 o) h0))
theorem Po(h0:b+195=c+60+d+1)(h1:a<c)(h2:c≤3):a≤9:=le [a,c] v0 (n 9) (L (S v0) v1<|L v1 (n 3) o) h1 h2
theorem Ju:∀h:a≤90,a≤99:=le [a] v0 (n 99) (L v0 (n 90) o)
theorem Pp(h0:8≤a)(h1:a<55)(h2:a≤18):¬a+1<9:=fun g=>no [a] (L (S (S v0)) (n 9)<|L (n 8) v0 o) g h0
theorem Pq(h0:8≤a)(h1:a<55)(h2:a≤18):¬19<a+1:=fun g=>no [a] (L (S (n 19)) (S v0)<|L v0 (n 18) o) g h2
theorem Pr:a≤a+0:=le [a] v0 (A v0 n0) o
theorem Pu(h0:8≤a)(h1:a<55)(h2:a≤18):a+1≠1:=fun g=>no [a] (E (S v0) n1<|L (n 8) v0 o) g h0
theorem Pw(h0:8≤a)(h1:a<55)(h2:a≤18):a+1≠4:=fun g=>no [a] (E (S v0) (n 4)<|L (n 8) v0 o) g h0
theorem Jv(h0:8≤a)(h1:a<55)(h2:a≤18):a+1≠20:=fun g=>no [a] (F (S v0) (n 20)<|L v0 (n 18) o) g h2
theorem Px(h0:8≤a)(h1:a<55)(h2:a≤18):((a+1:Nat):Int)-(8:Int)=((a-7:Nat):Int):=((Int.ofNat_sub (fQ h0 (Nat.le_succ _))).symm.trans (congrArg _ (Nat.succ_sub_succ a 7)))
theorem Py(h0:8≤a)(h1:a<55)(h2:a≤18):1≤a-7:=le [a -7,a] n1 v0 (L (n 8) v1<|F (A v0 (n 7)) v1 o) h0 (sc (le [a] (n 7) v0 (L (n 8) v0 o) h0))
theorem Pz(h0:8≤a)(h1:a<55)(h2:a≤18):a-7≤11:=le [a -7,a] v0 (n 11) (L v1 (n 18)<|E (A v0 (n 7)) v1 o) h2 (sc (le [a] (n 7) v0 (L (n 8) v0 o) h0))
theorem PA(h0:8≤a)(h1:a<55)(h2:a≤18):a=8∨a=9∨a=10∨a=11∨a=12∨a=13∨a=14∨a=15∨a=16∨a=17∨a=18:=(by decide:∀b<19,8≤b→b=8∨b=9∨b=10∨b=11∨b=12∨b=13∨b=14∨b=15∨b=16∨b=17∨b=18) a (Nat.lt_succ_of_le h2) h0
theorem PB:∀h:a+10*(b+1)+300<c,a+10*b+300<c:=le [c,a,b] (S (A (A v1 (M 10 v2)) (n 300))) v0 (L (S (A (A v1 (M 10 (S v2))) (n 300))) v0 o)
theorem PD:∀h:a+d<c,∀h:b≤d,a+b<c:=le [c,a,b,d] (S (A v1 v2)) v0 (L (S (A v1 v3)) v0<|L v2 v3 o)
theorem PE:∀h:a+10*d+300<c,∀h:b≤d,a+10*b+300<c:=le [c,a,b,d] (S (A (A v1 (M 10 v2)) (n 300))) v0 (L (S (A (A v1 (M 10 v3)) (n 300))) v0<|.l 10 v2 v3 o)
theorem PF:∀h:6≤a,¬1=a:=no [a] (L (n 6) v0<|F n1 v0 o)
theorem PJ:∀h:6≤a,¬2=a:=no [a] (L (n 6) v0<|F (n 2) v0 o)
theorem PK:∀h:6≤a,¬3=a:=no [a] (L (n 6) v0<|F (n 3) v0 o)
theorem PL:∀h:6≤a,¬4=a:=no [a] (L (n 6) v0<|F (n 4) v0 o)
theorem PM:∀h:6≤a,¬5=a:=no [a] (L (n 6) v0<|F (n 5) v0 o)
theorem PN:∀h:6≤a,¬0=a:=no [a] (L (n 6) v0<|F n0 v0 o)
theorem PO:0<((a+1:Nat):Int):=Int.ofNat_lt.mpr (Nat.succ_pos a)
theorem PR(h0:((a:Nat):Int)<(((b+1):Nat):Int)):a≤b:=Nat.le_of_lt_succ (Int.ofNat_lt.mp h0)
theorem FJ:∀h:a≤32,a≤5000:=le [a] v0 (n 5000) (L v0 (n 32) o)
theorem PS:∀h:b<a,¬a<b+1:=no [a,b] (L (S v1) v0<|L (S v0) (S v1) o)
theorem PT:∀h:a<b,∀h:b≤32,a≤5000:=le [a,b] v0 (n 5000) (L (S v0) v1<|L v1 (n 32) o)
theorem PU(h0:¬b<a):a<b+1:=le [b,a] (S v1) (S v0) (L v1 v0 o) (je h0)
theorem PV(h0:a=8∨a=35∨a=36∨a=37∨a=39∨a=41∨a=45∨a=46∨a=47∨a=48∨a=53∨a=54∨a=55):a-1<55:=pG (J0 (p:=fun x=>Nat.ble (x-1+1) 55) (l:=[8,35,36,37,39,41,45,46,47,48,53,54,55]) rfl h0)
theorem PW(h0:a=8∨a=35∨a=36∨a=37∨a=39∨a=41∨a=45∨a=46∨a=47∨a=48∨a=53∨a=54∨a=55):a=a-1+1:=Nat.eq_of_beq_eq_true (J0 (p:=fun x=>Nat.beq x (x-1+1)) (l:=[8,35,36,37,39,41,45,46,47,48,53,54,55]) rfl h0)
theorem PX:a≤a+4:=le [a] v0 (A v0 (n 4)) o
theorem PY:∀h:a≤b+4,∀h:b≤90,a≤99:=le [a,b] v0 (n 99) (L v0 (A v1 (n 4))<|L v1 (n 90) o)
theorem Jw:∀h:a<b,∀h:b≤8,a≤8:=le [a,b] v0 (n 8) (L (S v0) v1<|L v1 (n 8) o)
theorem Jx:(1+a)%13<13:=le [(1+a)%13] (S v0) (n 13) (L (S v0) (n 13) o) (Nat.mod_lt (1+a) (by decide))
theorem Jy:(1+a)%13≤5000:=le [(1+a)%13] v0 (n 5000) (L (S v0) (n 13) o) (Nat.mod_lt (1+a) (by decide))
theorem PZ:∀h:a≤54,a<55:=le [a] (S v0) (n 55) (L v0 (n 54) o)
theorem P_:1+a=a+1:=an (le [a] (A n1 v0) (S v0) o) (le [a] (S v0) (A n1 v0) o)
theorem Qa(h0:56≤b)(h1:a=55):a≤b-1:=le [b -1,a,b] v1 v0 (L (n 56) v2<|E v1 (n 55)<|F (S v0) v2 o) h0 h1 (sc (le [b] n1 v0 (L (n 56) v0 o) h0))
theorem Qc(h0:¬a<55):56≤a+1:=le [a] (n 56) (S v0) (L (n 55) v0 o) (je h0)
theorem Qd(h0:a=26∨a=103)(h1:b≠103)(h2:b≠26):¬a=b:=fun g0=>Or.elim h0 (fun s1=>Or.elim (uS h1) (fun s2=>Or.elim (uS h2) (fun s3=>no [a,b] (E v0 v1<|F v0 (n 26)<|L (S v1) (n 26) o) g0 s1 s3) fun s3=>no [a,b] (F v0 v1<|E v0 (n 26)<|L (S (n 26)) v1 o) g0 s1 s3) fun s2=>no [a,b] (F v0 v1<|E v0 (n 26)<|L (S (n 103)) v1 o) g0 s1 s2) fun s1=>Or.elim (uS h1) (fun s2=>no [a,b] (E v0 v1<|F v0 (n 103)<|L (S v1) (n 103) o) g0 s1 s2) fun s2=>no [a,b] (F v0 v1<|E v0 (n 103)<|L (S (n 103)) v1 o) g0 s1 s2
theorem Qe:500≤a+557:=le [a] (n 500) (A v0 (n 557)) o
theorem Qf(h0:a<3):a=0∨a=1∨a=2:=(by decide:∀b<3,b=0∨b=1∨b=2) a h0
theorem Jz:500≤a+556:=le [a] (n 500) (A v0 (n 556)) o
theorem Qg:1+(((25+13*a+b)%55:Nat):Int)=(((25+13*a+b)%55+1:Nat):Int):=Int.add_comm 1 _
theorem Qh:(25+13*a+b)%55<55:=le [((25+(13*a))+b)%55] (S v0) (n 55) (L (S v0) (n 55) o) (Nat.mod_lt ((25+(13*a))+b) (by decide))
theorem Qi(h0:a≤5000)(h1:¬a<4):4≤a:=le [a] (n 4) v0 (L (n 4) v0 o) (je h1)
theorem Qj(h0:c=b)(h1:b≤8):a+549=b+80+(a+468-b)+1:=an (le [b,(a+468) -b,a] (A v2 (n 549)) (S (A (A v0 (n 80)) v1)) (F (A v1 v0) (A v2 (n 468)) o) (sc (le [a,b] v1 (A v0 (n 468)) (L v1 (n 8) o) h1))) (le [a,b,(a+468) -b] (S (A (A v1 (n 80)) v2)) (A v0 (n 549)) (E (A v2 v1) (A v0 (n 468)) o) (sc (le [a,b] v1 (A v0 (n 468)) (L v1 (n 8) o) h1)))
theorem JA(h0:b+549=a+80+c+1)(h1:d=a)(h2:a≤8):a≤5000:=le [a] v0 (n 5000) (L v0 (n 8) o) h2
theorem Qk(h0:b+549=c+80+d+1)(h1:a=c)(h2:c≤8):a≤5000:=le [a,c] v0 (n 5000) (E v0 v1<|L v1 (n 8) o) h1 h2
theorem Ql(h0:a≤32):a/4≤5000:=je fun g=>no [a/4,a,a%4] (.l 4 (S (n 5000)) v0<|L v1 (n 32)<|E (A (M 4 v0) v2) v1 o) g h0 (oi a 4)
theorem Qn(h0:b≤32):a+555=b/4+70+(a+484-b/4)+1:=an (le [b/4,(a+484) -(b/4),a] (A v2 (n 555)) (S (A (A v0 (n 70)) v1)) (F (A v1 v0) (A v2 (n 484)) o) (sc (je fun g=>no [a,b/4,b,b%4] (.l 4 (S (A v0 (n 484))) v1<|L v2 (n 32)<|E (A (M 4 v1) v3) v2 o) g h0 (oi b 4)))) (le [a,b/4,(a+484) -(b/4)] (S (A (A v1 (n 70)) v2)) (A v0 (n 555)) (E (A v2 v1) (A v0 (n 484)) o) (sc (je fun g=>no [a,b/4,b,b%4] (.l 4 (S (A v0 (n 484))) v1<|L v2 (n 32)<|E (A (M 4 v1) v3) v2 o) g h0 (oi b 4))))
theorem Qo(h0:c=b)(h1:b≤8):a+554=b+80+(a+473-b)+1:=an (le [b,(a+473) -b,a] (A v2 (n 554)) (S (A (A v0 (n 80)) v1)) (F (A v1 v0) (A v2 (n 473)) o) (sc (le [a,b] v1 (A v0 (n 473)) (L v1 (n 8) o) h1))) (le [a,b,(a+473) -b] (S (A (A v1 (n 80)) v2)) (A v0 (n 554)) (E (A v2 v1) (A v0 (n 473)) o) (sc (le [a,b] v1 (A v0 (n 473)) (L v1 (n 8) o) h1)))
theorem FL(h0:b+554=a+80+c+1)(h1:d=a)(h2:a≤8):a≤5000:=le [a] v0 (n 5000) (L v0 (n 8) o) h2
theorem Qp(h0:b+554=c+80+d+1)(h1:a=c)(h2:c≤8):a≤5000:=le [a,c] v0 (n 5000) (E v0 v1<|L v1 (n 8) o) h1 h2
theorem Qq(h0:a<b/4)(h1:c=a):4*(a+1)≤b:=le [b,a,b/4,b%4] (M 4 (S v1)) v0 (.l 4 (S v1) v2<|E (A (M 4 v2) v3) v0 o) h0 (oi b 4)
theorem Qs(h0:b<c/4)(h1:a=b)(h2:c≤32):a≤32:=je fun g=>no [a,b,c/4,c,c%4] (.l 4 (S (n 32)) v0<|.l 4 (S v1) v2<|.e 4 v0 v1<|L v3 (n 32)<|E (A (M 4 v2) v4) v3 o) g h0 h1 h2 (oi c 4)
theorem Qt:500≤a+547:=le [a] (n 500) (A v0 (n 547)) o
theorem Qu:0+a/4=a/4:=an (le [a/4] (A n0 v0) v0 o) (le [a/4] v0 (A n0 v0) o)
theorem Qv:500≤a+550:=le [a] (n 500) (A v0 (n 550)) o
theorem Qw:500≤a+546:=le [a] (n 500) (A v0 (n 546)) o
theorem Qx:∀h:b<3,∀h:a≤4*b,a≤90:=le [a,b] v0 (n 90) (.l 4 (S v1) (n 3)<|L v0 (M 4 v1) o)
theorem Qy:∀h:c≤4*b,∀h:a≤c+4,a≤4*(b+1):=le [b,a,c] v1 (M 4 (S v0)) (L v2 (M 4 v0)<|L v1 (A v2 (n 4)) o)
theorem JB:a+550=3+410+(a+136)+1:=an (le [a] (A v0 (n 550)) (S (A (A (n 3) (n 410)) (A v0 (n 136)))) o) (le [a] (S (A (A (n 3) (n 410)) (A v0 (n 136)))) (A v0 (n 550)) o)
theorem Qz(h0:a≤63):min 32 a≤32:=le [min 32 a] v0 (n 32) (L v0 (n 32) o) (Nat.min_le_left _ _)
theorem QA:∀h:a≤63,a≤5000:=le [a] v0 (n 5000) (L v0 (n 63) o)
theorem QB(h0:a=b/4)(h1:b=min 32 c)(h2:b≤32):a≤8:=je fun g=>no [a,b/4,b,b%4] (.l 4 (S (n 8)) v0<|.e 4 v0 v1<|L v2 (n 32)<|E (A (M 4 v1) v3) v2 o) g h0 h2 (oi b 4)
theorem QC (h0:0=(a/4))(h1:4≤b)(h2:a=(min 32 b))(h3:b≤63):False:=lM (Nat.div_pos (h2▸Nat.le_min.mpr ⟨by decide,h1⟩) (by decide)) h0
theorem QD:(a:Int)=(b:Int)↔a=b:=Int.ofNat_inj
theorem QE:∀h:a+10*c+300<b,a+1+200<b:=le [b,a,c] (S (A (S v1) (n 200))) v0 (L (S (A (A v1 (M 10 v2)) (n 300))) v0 o)
end
section
open K
variable {a b c d e f g i j k l m n:Nat}
theorem p1 (h:i≤5000):(-2^63:Int)≤(i:Int):=Int.le_trans aD (Int.natCast_nonneg i)
theorem p2 (h:i≤5000):(i:Int)<2^63:=Int.lt_of_le_of_lt (Int.ofNat_le.mpr h) aD
theorem p3 (h:i≤5000):¬((i:Int)< -2^63)∧¬((i:Int)≥2^63):=⟨Int.not_lt.mpr (p1 h),Int.not_le.mpr (p2 h)⟩
theorem p4 (h:j<l) (e:n=l): -(n:Int)≤Int.negSucc j:=by rw [e];exact Int.neg_le_neg (Int.ofNat_le.mpr h)
theorem p5 (h:j≤5000):(-2^63:Int)≤Int.negSucc j:=Int.neg_le_neg (a:=((j+1:Nat):Int)) (b:=2^63) (Int.le_of_lt (Int.lt_of_le_of_lt (Int.ofNat_le.mpr (Nat.succ_le_succ h)) aD))
theorem p6 (e:n=l):(Int.negSucc j+(n:Int)).toNat=l -(j+1):=by rw [e,Int.add_comm];exact Int.toNat_sub l (j+1)
theorem SH (h:b<1000000):((b+1:Nat):Int).natAbs<1073741824:=Nat.lt_of_le_of_lt h aD
theorem p7 (h:20000≤g) (h1:l≤30) (h2:e=l -17) (h3:c=17) (h4:d=e) (h5:a≤0+i) (h6:b≤0+j) (h7:i=c) (h8:j=d):a+b≤g:=fQ (Nat.add_le_add (show a≤17 from fQ h5 (by rw [h7,h3];exact jd 17)) (show b≤30 from fQ h6 (by rw [h8,h4,h2,Nat.zero_add];exact fQ (Nat.sub_le _ _) h1))) (fQ aD h)
theorem q7 (h:n≤55+c) (hc:c≤8):n≤5000:=fQ h (fQ (Nat.add_le_add_left hc 55) aD)
theorem q8:254+i≠0:=fun h=>nomatch (Nat.add_eq_zero_iff.mp h).1
theorem q9 (h:a=22) (g:b≤1):a+b≤5000:=h▸fQ (Nat.add_le_add_left g 22) aD
theorem SI (h:a=22):22≤a+b:=h▸Nat.le_add_right _ _
theorem Wq (e:a=b) (h:b≤64+c) (hc:c≤8):a≤5000:=e▸fQ h (fQ (Nat.add_le_add_left hc 64) aD)
theorem Ws (e:a=b) (h:b≤256+c) (hc:c≤8):a≤5000:=e▸fQ h (fQ (Nat.add_le_add_left hc 256) aD)
theorem SJ {x:Nat} (h:a≤n+x):n+(x+31)=a+30+(n+x -a)+1:=by have q:=Nat.sub_add_cancel h;exact Nat.le_antisymm (le [n,a,n+x -a,x] (A v0 (A v3 (K.n 31))) (S (A (A v1 (K.n 30)) v2)) (F (A v2 v1) (A v0 v3) o) q) (le [n,a,n+x -a,x] (S (A (A v1 (K.n 30)) v2)) (A v0 (A v3 (K.n 31))) (E (A v2 v1) (A v0 v3) o) q)
theorem Wr (e:a=b) (h:b≤64+c) (hc:c≤8):n+395=a+30+(n+364 -a)+1:=SJ (x:=364) (e▸fQ h (fQ (Nat.add_le_add_left hc 64) (fQ aD (Nat.le_add_left 364 n))))
theorem Wt (e:a=b) (h:b≤256+c) (hc:c≤8):n+394=a+30+(n+363 -a)+1:=SJ (x:=363) (e▸fQ h (fQ (Nat.add_le_add_left hc 256) (fQ aD (Nat.le_add_left 363 n))))
theorem Wu:3*i+2<4*(i+1):=le [i] (S (A (M 3 v0) (K.n 2))) (M 4 (S v0)) o
end
noncomputable abbrev P0:Program:=PySem.Challenge.pw_xm0313_01
noncomputable abbrev S (s:String):Str:=Str.ofString s
noncomputable abbrev E (P:Params) (s:String) (t:Tok) (v:Value):DictEntry:=⟨PyData.keyHash P (S s),.str (S s) t,v⟩
noncomputable def st (i:Nat):Stmt:=(P0.main.body[i]?).getD (.Pass default)
noncomputable def fP:Stmt→Arguments
 | .FunctionDef (args:=a) .. =>a
 |_=>⟨[],[],none,[],[],none,[]⟩
noncomputable def fB:Stmt→List Stmt
 | .FunctionDef (body:=b) .. =>b
 | .ClassDef (body:=b) .. =>b
 |_=>[]
noncomputable def fS:Stmt→Scope
 | .FunctionDef (scope:=s) .. =>s
 | .ClassDef (scope:=s) .. =>s
 |_=>P0.main.scope
noncomputable def st2 (i j:Nat):Stmt:=((fB (st i))[j]?).getD (.Pass default)
noncomputable abbrev s (x:String) (t:Tok):Value:= .str (S x) t
noncomputable abbrev uA:Value:=s "framerune.faults" 191
noncomputable abbrev dH:Value:=s "framerune.kinds" 240
noncomputable abbrev cB:Value:=s "framerune.store" 614
noncomputable abbrev fW:Value:=s "law_xm0313_01" 1319
noncomputable abbrev tp (l:zV):Obj:=⟨.type "tuple",none,.seq l.toArray 0,#[]⟩
noncomputable abbrev fl (l:zV):Obj:=⟨.none,none,.fields l.toArray,#[]⟩
noncomputable def sq:Tok→List String→List Value
 |_,[]=>[]
 |t,x::l=>s x t::sq (t+1) l
noncomputable def z3 (d:Int):List (Int×Addr)→List Value
 |[]=>[]
 |(a,r)::l=> .int a 0:: .int d 0:: .ref r::z3 d l
noncomputable def DS (d:Int) (l:List (Int×Addr)):Obj:=fl (z3 d l)
noncomputable def cd (nm q:String) (t:Tok) (l a f:Int) (b n:Nat) (k:Bool) (c:Value) (x y z:Value):Obj:=⟨.type "code",none,.fields #[s nm t,s q (t+1),s "/claim/cut.py" (t+2),.int l 0,.int a 0,.int 0 0,.int 0 0,.int f 0,.ref b,.bool k,.int 181 0,.ref (b+1),.none,x,y,z,c,.int l 0,s "/claim/cut.py" (t+4+n)],#[]⟩
noncomputable def cc (nm:String) (t:Tok) (l:Int) (b:Nat):Obj:=cd nm nm t l 0 0 b 0 false (.int (t+3:Nat) 0) .none .none .none
noncomputable def fo (k:Nat) (ty:Value) (nm q:String) (x:Stmt) (m c:Value):Obj:=⟨ty,none,.func ⟨S nm,S q,fP x,.stmts (fB x),fS x,k,[],.none,.none,.none,m,none,c,.none,0⟩,#[]⟩
noncomputable def fg (P:Params) (b:Nat) (t:Tok) (m:Value) (nm:String) (x:Stmt) (l a:Int) (as:List String) (q:String:=nm):List Obj:=
 [tp [],fl [],tp (sq (t+3) as),tp [],fo 0 .none nm q x .none .none,cd nm q t l a 3 b as.length true (.int (t+3+as.length:Nat) 0) (.ref (b+2)) (.ref (b+3)) (.ref (b+4)),fo 3 (.type "function") nm q x m (.ref (b+5))]
noncomputable def fh (P:Params) (b:Nat) (t:Tok) (m:Value) (nm:String) (x:Stmt) (l a:Int) (q:String:=nm):List Obj:=
 [tp [],fl [],fo 0 .none nm q x .none .none,cd nm q t l a 3 b 0 true (.int (t+3:Nat) 0) .none .none (.ref (b+2)),fo 3 (.type "function") nm q x m (.ref (b+3))]
noncomputable def di (P:Params):List (String×Nat×Int)→List DictEntry
 |[]=>[]
 |(x,t,v)::l=>E P x t (.int v (t -1))::di P l
noncomputable def dr (P:Params):List (String×Nat×Addr)→List DictEntry
 |[]=>[]
 |(x,t,v)::l=>E P x t (.ref v)::dr P l
noncomputable def de (P:Params):List (String×Nat×Value)→List DictEntry
 |[]=>[]
 |(x,t,v)::l=>E P x t v::de P l
noncomputable def Le (P:Params) (m:Value) (nm:String) (C:Nat) (a:Tok) (L:Int) (mt:List (String×Nat×Addr)) (u:Tok) (ns:List String):List Obj:=
 [tp (sq u ns),⟨.type "dict",none,.dict (E P "__module__" (a+7) m::E P "__firstlineno__" (a+11) (.int L (a+10))::(dr P mt++[E P "__static_attributes__" (u+ns.length) (.ref (C -2)),E P "__dict__" (u+ns.length+2) (.ref (C+1)),E P "__weakref__" (u+ns.length+4) (.ref (C+2)),E P "__doc__" (u+ns.length+5) .none])).toArray 4,#[]⟩,⟨.type "type",none,.cls ⟨S nm,[.type "object"],[.ref C,.type "object"],C -1,S nm,true,[],[],false,none,false⟩,#[none,none,some (s nm a),some (s nm (a+8)),some (.builtin "object.__new__"),some (.bool true)]⟩,⟨.type "getset_descriptor",none,.fields #[s "__dict__" (u+ns.length+1),.ref C,.builtin "function.__dict__",.builtin "function.__dict__#set"],#[]⟩,⟨.type "getset_descriptor",none,.fields #[s "__weakref__" (u+ns.length+3),.ref C,.builtin "ExceptionGroup.__weakref__",.none],#[]⟩,⟨.type "super",none,.fields #[.ref C,.ref C,.ref C],#[]⟩,⟨.type "builtin_function_or_method",none,.fields #[.builtin "object.__init_subclass__",.ref C],#[]⟩]
noncomputable def LI (P:Params) (m:Value) (nm:String) (C:Nat) (a:Tok) (L:Int) (mt:List (String×Nat×Addr)) (e:Tok) (ln:List (Int×Addr)) (b k:Nat):List Obj:=
 [tp [],⟨.type "builtin_function_or_method",none,.fields #[.builtin "type.__prepare__",.type "type"],#[]⟩,⟨.type "dict",none,.dict (E P "__module__" (a+7) m::E P "__qualname__" (a+9) (s nm (a+8))::E P "__firstlineno__" (a+11) (.int L (a+10))::(dr P mt++[E P "__static_attributes__" e (.ref (C -2))])).toArray k,#[]⟩,tp [],DS 4 ln,cc nm (a+2) L b,⟨.type "frame",none,.plain,#[some (.ref (b+2)),some (.ref 3),some (.ref (b -1)),none,some m,none,some (.ref 0)]⟩]
noncomputable def mE (P:Params):List DictEntry:=de P [("__doc__",166,.none),("__package__",167,.none),("__loader__",168,(.builtin "__main__.__loader__#opaque")),("__spec__",169,.none)]++(dr P [("__annotations__",170,6),("__builtins__",171,4)]++(de P [("__file__",173,s "/claim/cut.py" 172),("__cached__",174,.none)]++(di P [("CF_END",188,63),("CM_END",190,255)]++(dr P [("RuneError",223,31),("BadKind",239,44)]++(di P [("VOID",243,0),("BOOL",245,1),("CHAR",247,2),("I1",249,3),("U1",251,4),("I2",253,5),("U2",255,6),("I4",257,7),("U4",259,8),("I8",261,9),("U8",263,10),("NINT",265,11),("OBJECT",267,12),("STRING",269,13),("NULLK",271,14),("PRIM_END",273,16),("R_PRIM",275,1),("R_CLASS",277,2),("R_VALUE",279,3),("R_ARRAY",281,4),("R_BYREF",283,5),("R_VAR",285,6),("R_MVAR",287,7),("R_BOXED",289,8),("R_ROREF",291,9),("R_FTN",293,10),("R_RAW",295,11),("DEEPEST_KIND",297,24),("HEAVIEST_KIND",299,4096)]++(dr P [("PRIM_TID",328,47),("TID_PRIM",357,48)]++(di P [("ARRAY_TID",359,5),("NULLABLE_TID",361,8)]++(dr P [("KindTable",418,79),("inner_kinds",426,90),("row_level",433,97),("row_length",440,104),("check_kind_row",450,111),("check_named",458,118),("check_args",467,125),("may_stand",476,132),("class_kind",485,139),("value_kind",494,146),("prim_kind",502,153),("var_kind",510,160),("kind_sort",518,167),("elem_of",527,174),("tid_of",536,181),("args_of",545,188),("is_value",553,195),("is_var",562,202),("close",572,209),("close_in",586,216),("with_inner",596,223),("box_of",604,230),("pick_arg",613,237)]++(di P [("S_CLASS",617,1),("S_STRUCT",619,2),("S_IFACE",621,3),("S_DELEGATE",623,4),("S_ENUM",625,5),("TF_ABSTRACT",627,1),("TF_SEALED",629,2),("TF_STATICS",631,3),("VA_NONE",633,0),("VA_OUT",635,1),("VA_IN",637,2),("GB_STRUCT",639,2),("MF_STATIC",641,1),("MF_VIRTUAL",643,2),("MF_NEWSLOT",645,4),("MF_CTOR",647,32),("MF_CCTOR",649,64),("MF_SPECIAL",651,128),("T_OBJECT",653,1),("T_VALUETYPE",655,2),("T_ENUM",657,3),("T_STRING",659,4),("T_ARRAY",661,5),("T_DELEGATE",663,6),("T_EXCEPTION",665,7),("T_NULLABLE",667,8),("T_BOOL",669,9),("T_CHAR",671,10),("T_I1",673,11),("T_U1",675,12),("T_I2",677,13),("T_U2",679,14),("T_I4",681,15),("T_U4",683,16),("T_I8",685,17),("T_U8",687,18),("T_NINT",689,19),("T_VOID",691,20),("T_NULLREF",693,21),("T_INDEX",695,22),("T_CAST",697,23),("T_ARITH",699,24),("T_DIVZERO",701,25),("T_OVERFLOW",703,26),("T_ARRAYTYPE",705,27),("T_TYPEINIT",707,28),("T_INVALIDOP",709,29),("T_OOM",711,30),("T_ARG",713,31),("T_ARGRANGE",715,32),("T_NOTSUPP",717,33),("T_DISPOSABLE",719,34),("T_IENUM",721,35),("T_IENUMERATOR",723,36),("T_LIST",725,37),("T_TASK",727,38),("T_TASK1",729,39),("T_BUILDER",731,40),("T_BUILDER1",733,41),("T_MACHINE",735,42),("T_CONSOLE",737,43),("T_ACTION",739,44),("T_ACTION1",741,45),("T_FUNC1",743,46),("T_FUNC2",745,47),("T_COMPARABLE",747,48),("T_GC",749,49),("T_WEAK",751,50),("T_TYPE",753,51),("T_SCHED",755,52),("T_FUNC3",757,53),("T_PRED",759,54),("T_LISTENUM",761,55),("T_END",763,63)]++(dr P [("CORE_ROWS",857,403),("TypeDef",911,420),("FieldDef",951,441),("MethodDef",999,462),("Store",1033,483),("plain_names",1042,494),("make_store",1050,501),("put_shell",1061,508),("new_asm",1069,515),("usual_base",1077,522),("sort_flags",1085,529),("add_type",1100,536),("set_bounds",1111,543),("set_variance",1121,550),("add_iface",1131,557),("add_field",1145,564),("put_field_at",1159,571),("kept_flags",1166,578),("add_method",1181,585),("put_method_at",1197,592),("note_method",1207,599),("put_once",1215,606),("add_impl",1226,613),("add_prop",1239,620),("add_event",1251,627),("self_kind",1262,634),("kind_with",1272,641),("type_of",1281,648),("find_type",1292,655),("base_of",1303,662),("base_of_prim",1311,669),("is_virtual",1318,676),("_law_take",1328,683),("_law_lines",1334,690),("_law_row",1350,697),("_law_model",1367,704),("_law_seen",1375,711),("_law_same",1381,716),("_law_only_bases",1387,721),("_law_change",1398,728),("_law_put",1408,735),("_law_once",1416,742),("_law_turn",1431,749),("_law_found",1437,754),("law",1443,759)]))))))))))
noncomputable def md (P:Params) (m:Value) (n c:Nat):Obj:=⟨.type "dict",none,.dict (E P "__name__" 165 m::(mE P).take (n -1)).toArray c,#[]⟩
noncomputable def JY (P:Params):Obj:=⟨.type "dict",none,.dict #[⟨20,.int 20 329,.int 0 242⟩,⟨9,.int 9 330,.int 1 244⟩,⟨10,.int 10 331,.int 2 246⟩,⟨11,.int 11 332,.int 3 248⟩,⟨12,.int 12 333,.int 4 250⟩,⟨13,.int 13 334,.int 5 252⟩,⟨14,.int 14 335,.int 6 254⟩,⟨15,.int 15 336,.int 7 256⟩,⟨16,.int 16 337,.int 8 258⟩,⟨17,.int 17 338,.int 9 260⟩,⟨18,.int 18 339,.int 10 262⟩,⟨19,.int 19 340,.int 11 264⟩,⟨1,.int 1 341,.int 12 266⟩,⟨4,.int 4 342,.int 13 268⟩] 14,#[]⟩
noncomputable def OL (P:Params):List Obj:=List.flatten [[boot_o_0 P,boot_o_1 P,⟨.none,none,.dict #[E P "type.__subclasses__.Exception.0" 220 (.int 31 0),E P "type.__subclasses__.Exception.n" 221 (.int 1 0)] 2,#[]⟩,md P fW 188 188,boot_o_4 P,boot_o_5 P,boot_o_6 P,boot_o_7 P,boot_o_8 P,boot_o_9 P,boot_o_10 P,tp [],DS 0 [(4,20),(9,40),(45,54),(94,89),(103,96),(107,103),(113,110),(135,117),(139,124),(143,131),(148,138),(152,145),(156,152),(160,159),(162,166),(164,173),(169,180),(178,187),(183,194),(187,201),(190,208),(195,215),(210,222),(219,229),(227,236),(307,409),(333,430),(343,451),(360,472),(370,493),(375,500),(385,507),(394,514),(397,521),(405,528),(411,535),(420,542),(422,549),(424,556),(428,563),(434,570),(444,577),(448,584),(455,591),(471,598),(479,605),(482,612),(484,619),(486,626),(488,633),(496,640),(501,647),(506,654),(514,661),(533,668),(539,675),(542,682),(545,689),(547,696),(559,703),(577,710),(581,715),(589,720),(596,727),(625,734),(634,741),(637,748),(676,753),(703,758)],cc "<module>" 182 1 11,⟨.type "frame",none,.plain,#[some (.ref 13),some (.ref 3),some (.ref 3),none,some (s "__main__" 164),none,some (.ref 0)]⟩,tp [.type "Exception"],⟨.type "builtin_function_or_method",none,.fields #[.builtin "type.__prepare__",.type "type"],#[]⟩,⟨.type "dict",none,.dict #[E P "__module__" 200 uA,E P "__qualname__" 202 (s "RuneError" 201),E P "__firstlineno__" 204 (.int 4 203),E P "__init__" 213 (.ref 28),E P "__static_attributes__" 216 (.ref 29)] 5,#[]⟩,tp [],DS 4 [(6,27)],cc "RuneError" 195 4 18,⟨.type "frame",none,.plain,#[some (.ref 20),some (.ref 3),some (.ref 17),none,some uA,none,some (.ref 0)]⟩],
 fg P 22 205 uA "__init__" (st2 3 0) 6 3 ["self","code","at"] (q:="RuneError.__init__"),
 [tp [s "at" 214,s "code" 215],⟨.type "dict",none,.dict #[E P "__module__" 200 uA,E P "__firstlineno__" 204 (.int 4 203),E P "__init__" 213 (.ref 28),E P "__static_attributes__" 216 (.ref 29),E P "__weakref__" 218 (.ref 32),E P "__doc__" 219 .none] 3,#[]⟩,⟨.type "type",none,.cls ⟨S "RuneError",[.type "Exception"],[.ref 31,.type "Exception",.type "BaseException",.type "object"],30,S "RuneError",true,[],[.ref 44],false,none,false⟩,#[some (.ref 15),none,some (s "RuneError" 193),some (s "RuneError" 201),some (.builtin "Exception.__new__"),some (.bool true)]⟩,⟨.type "getset_descriptor",none,.fields #[s "__weakref__" 217,.ref 31,.builtin "ExceptionGroup.__weakref__",.none],#[]⟩,⟨.type "super",none,.fields #[.ref 31,.ref 31,.ref 31],#[]⟩,⟨.type "builtin_function_or_method",none,.fields #[.builtin "object.__init_subclass__",.ref 31],#[]⟩,tp [.ref 31],⟨.type "builtin_function_or_method",none,.fields #[.builtin "type.__prepare__",.type "type"],#[]⟩,⟨.type "dict",none,.dict #[E P "__module__" 231 uA,E P "__qualname__" 233 (s "BadKind" 232),E P "__firstlineno__" 235 (.int 9 234),E P "__static_attributes__" 236 (.ref 42)] 4,#[]⟩,tp [],fl [],cc "BadKind" 226 9 38,⟨.type "frame",none,.plain,#[some (.ref 40),some (.ref 3),some (.ref 37),none,some uA,none,some (.ref 0)]⟩,tp [],⟨.type "dict",none,.dict #[E P "__module__" 231 uA,E P "__firstlineno__" 235 (.int 9 234),E P "__static_attributes__" 236 (.ref 42),E P "__doc__" 237 .none] 2,#[]⟩,⟨.type "type",none,.cls ⟨S "BadKind",[.ref 31],[.ref 44,.ref 31,.type "Exception",.type "BaseException",.type "object"],43,S "BadKind",true,[],[],false,none,false⟩,#[some (.ref 35),none,some (s "BadKind" 224),some (s "BadKind" 232),some (.builtin "Exception.__new__"),some (.bool true)]⟩,⟨.type "super",none,.fields #[.ref 44,.ref 44,.ref 44],#[]⟩,⟨.type "builtin_function_or_method",none,.fields #[.builtin "object.__init_subclass__",.ref 44],#[]⟩,⟨.type "dict",none,.dict #[⟨0,.int 0 242,.int 20 300⟩,⟨1,.int 1 244,.int 9 301⟩,⟨2,.int 2 246,.int 10 302⟩,⟨3,.int 3 248,.int 11 303⟩,⟨4,.int 4 250,.int 12 304⟩,⟨5,.int 5 252,.int 13 305⟩,⟨6,.int 6 254,.int 14 306⟩,⟨7,.int 7 256,.int 15 307⟩,⟨8,.int 8 258,.int 16 308⟩,⟨9,.int 9 260,.int 17 309⟩,⟨10,.int 10 262,.int 18 310⟩,⟨11,.int 11 264,.int 19 311⟩,⟨12,.int 12 266,.int 1 312⟩,⟨13,.int 13 268,.int 4 313⟩] 14,#[]⟩,JY P],
 LI P dH "KindTable" 79 362 45 [("__init__",382,62),("row",390,69),("put",405,76)] 411 [(47,61),(61,68),(66,75)] 52 7,
 fg P 56 374 dH "__init__" (st2 39 0) 47 1 ["self","number","row"] (q:="KindTable.__init__"),
 fg P 63 383 dH "row" (st2 39 1) 61 2 ["self","k"] (q:="KindTable.row"),
 fg P 70 391 dH "put" (st2 39 2) 66 2 ["self","row","found","depth","weight","opened","level","inner","k"] (q:="KindTable.put"),
 Le P dH "KindTable" 79 362 45 [("__init__",382,62),("row",390,69),("put",405,76)] 406 ["depths","index","opens","rows","weights"],
 fg P 84 419 dH "inner_kinds" (st 40) 94 1 ["row","sort"],
 fg P 91 427 dH "row_level" (st 41) 103 1 ["sort"],
 fg P 98 434 dH "row_length" (st 42) 107 1 ["sort"],
 fg P 105 441 dH "check_kind_row" (st 43) 113 2 ["kt","row","sort","inner"],
 fg P 112 451 dH "check_named" (st 44) 135 2 ["kt","row"],
 fg P 119 459 dH "check_args" (st 45) 139 2 ["kt","args","arg"],
 fg P 126 468 dH "may_stand" (st 46) 143 2 ["kt","k","sort"],
 fg P 133 477 dH "class_kind" (st 47) 148 3 ["kt","tid","args"],
 fg P 140 486 dH "value_kind" (st 48) 152 3 ["kt","tid","args"],
 fg P 147 495 dH "prim_kind" (st 49) 156 2 ["tid","args"],
 fg P 154 503 dH "var_kind" (st 50) 160 2 ["kt","i"],
 fg P 161 511 dH "kind_sort" (st 51) 162 2 ["kt","k"],
 fg P 168 519 dH "elem_of" (st 52) 164 2 ["kt","k","row"],
 fg P 175 528 dH "tid_of" (st 53) 169 2 ["kt","k","row"],
 fg P 182 537 dH "args_of" (st 54) 178 2 ["kt","k","row"],
 fg P 189 546 dH "is_value" (st 55) 183 2 ["kt","k"],
 fg P 196 554 dH "is_var" (st 56) 187 2 ["kt","k","sort"],
 fg P 203 563 dH "close" (st 57) 190 4 ["kt","k","targs","margs"],
 fg P 210 573 dH "close_in" (st 58) 195 5 ["kt","k","targs","margs","seen","row","inner","part"],
 fg P 217 587 dH "with_inner" (st 59) 210 3 ["kt","row","inner","sort"],
 fg P 224 597 dH "box_of" (st 60) 219 2 ["kt","k"],
 fg P 231 605 dH "pick_arg" (st 61) 227 3 ["args","place","k"],
 [tp [],tp [],tp [.int 1 652,s "Object" 764,.int 1 616,.int 0 765,.int 0 766,.ref 238,.ref 239],tp [],tp [],tp [.int 2 654,s "ValueType" 767,.int 1 616,.int 1 626,.int 1 652,.ref 241,.ref 242],tp [],tp [],tp [.int 3 656,s "Enum" 768,.int 1 616,.int 1 626,.int 2 654,.ref 244,.ref 245],tp [],tp [],tp [.int 4 658,s "String" 769,.int 1 616,.int 2 628,.int 1 652,.ref 247,.ref 248],tp [],tp [],tp [.int 5 660,s "Array" 770,.int 1 616,.int 1 626,.int 1 652,.ref 250,.ref 251],tp [],tp [],tp [.int 6 662,s "Delegate" 771,.int 1 616,.int 1 626,.int 1 652,.ref 253,.ref 254],tp [],tp [],tp [.int 7 664,s "Exception" 772,.int 1 616,.int 0 773,.int 1 652,.ref 256,.ref 257],tp [s "T" 775],tp [.int 0 632],tp [.int 8 666,s "Nullable" 774,.int 2 618,.int 2 628,.int 2 654,.ref 259,.ref 260],tp [],tp [],tp [.int 9 668,s "Boolean" 776,.int 2 618,.int 2 628,.int 2 654,.ref 262,.ref 263],tp [],tp [],tp [.int 10 670,s "Char" 777,.int 2 618,.int 2 628,.int 2 654,.ref 265,.ref 266],tp [],tp [],tp [.int 11 672,s "SByte" 778,.int 2 618,.int 2 628,.int 2 654,.ref 268,.ref 269],tp [],tp [],tp [.int 12 674,s "Byte" 779,.int 2 618,.int 2 628,.int 2 654,.ref 271,.ref 272],tp [],tp [],tp [.int 13 676,s "Int16" 780,.int 2 618,.int 2 628,.int 2 654,.ref 274,.ref 275],tp [],tp [],tp [.int 14 678,s "UInt16" 781,.int 2 618,.int 2 628,.int 2 654,.ref 277,.ref 278],tp [],tp [],tp [.int 15 680,s "Int32" 782,.int 2 618,.int 2 628,.int 2 654,.ref 280,.ref 281],tp [],tp [],tp [.int 16 682,s "UInt32" 783,.int 2 618,.int 2 628,.int 2 654,.ref 283,.ref 284],tp [],tp [],tp [.int 17 684,s "Int64" 784,.int 2 618,.int 2 628,.int 2 654,.ref 286,.ref 287],tp [],tp [],tp [.int 18 686,s "UInt64" 785,.int 2 618,.int 2 628,.int 2 654,.ref 289,.ref 290],tp [],tp [],tp [.int 19 688,s "IntPtr" 786,.int 2 618,.int 2 628,.int 2 654,.ref 292,.ref 293],tp [],tp [],tp [.int 20 690,s "Void" 787,.int 2 618,.int 2 628,.int 2 654,.ref 295,.ref 296],tp [],tp [],tp [.int 21 692,s "NullReferenceException" 788,.int 1 616,.int 0 789,.int 7 664,.ref 298,.ref 299],tp [],tp [],tp [.int 22 694,s "IndexOutOfRangeException" 790,.int 1 616,.int 2 628,.int 7 664,.ref 301,.ref 302],tp [],tp [],tp [.int 23 696,s "InvalidCastException" 791,.int 1 616,.int 0 792,.int 7 664,.ref 304,.ref 305],tp [],tp [],tp [.int 24 698,s "ArithmeticException" 793,.int 1 616,.int 0 794,.int 7 664,.ref 307,.ref 308],tp [],tp [],tp [.int 25 700,s "DivideByZeroException" 795,.int 1 616,.int 0 796,.int 24 698,.ref 310,.ref 311],tp [],tp [],tp [.int 26 702,s "OverflowException" 797,.int 1 616,.int 0 798,.int 24 698,.ref 313,.ref 314],tp [],tp [],tp [.int 27 704,s "ArrayTypeMismatchException" 799,.int 1 616,.int 0 800,.int 7 664,.ref 316,.ref 317],tp [],tp [],tp [.int 28 706,s "TypeInitializationException" 801,.int 1 616,.int 2 628,.int 7 664,.ref 319,.ref 320],tp [],tp [],tp [.int 29 708,s "InvalidOperationException" 802,.int 1 616,.int 0 803,.int 7 664,.ref 322,.ref 323],tp [],tp [],tp [.int 30 710,s "OutOfMemoryException" 804,.int 1 616,.int 0 805,.int 7 664,.ref 325,.ref 326],tp [],tp [],tp [.int 31 712,s "ArgumentException" 806,.int 1 616,.int 0 807,.int 7 664,.ref 328,.ref 329],tp [],tp [],tp [.int 32 714,s "ArgumentOutOfRangeException" 808,.int 1 616,.int 0 809,.int 31 712,.ref 331,.ref 332],tp [],tp [],tp [.int 33 716,s "NotSupportedException" 810,.int 1 616,.int 0 811,.int 7 664,.ref 334,.ref 335],tp [],tp [],tp [.int 34 718,s "IDisposable" 812,.int 3 620,.int 1 626,.int 0 813,.ref 337,.ref 338],tp [s "T" 816],tp [.int 1 634],tp [.int 35 720,s "IEnumerable" 814,.int 3 620,.int 1 626,.int 0 815,.ref 340,.ref 341],tp [s "T" 819],tp [.int 1 634],tp [.int 36 722,s "IEnumerator" 817,.int 3 620,.int 1 626,.int 0 818,.ref 343,.ref 344],tp [s "T" 822],tp [.int 0 632],tp [.int 37 724,s "List" 820,.int 1 616,.int 0 821,.int 1 652,.ref 346,.ref 347],tp [],tp [],tp [.int 38 726,s "Task" 823,.int 1 616,.int 0 824,.int 1 652,.ref 349,.ref 350],tp [s "T" 827],tp [.int 0 632],tp [.int 39 728,s "Task" 825,.int 1 616,.int 0 826,.int 38 726,.ref 352,.ref 353],tp [],tp [],tp [.int 40 730,s "AsyncBuilder" 828,.int 1 616,.int 2 628,.int 1 652,.ref 355,.ref 356],tp [s "T" 830],tp [.int 0 632],tp [.int 41 732,s "AsyncBuilder" 829,.int 1 616,.int 2 628,.int 1 652,.ref 358,.ref 359],tp [],tp [],tp [.int 42 734,s "IAsyncMachine" 831,.int 3 620,.int 1 626,.int 0 832,.ref 361,.ref 362],tp [],tp [],tp [.int 43 736,s "Console" 833,.int 1 616,.int 3 630,.int 1 652,.ref 364,.ref 365],tp [],tp [],tp [.int 44 738,s "Action" 834,.int 4 622,.int 2 628,.int 6 662,.ref 367,.ref 368],tp [s "T" 836],tp [.int 2 636],tp [.int 45 740,s "Action" 835,.int 4 622,.int 2 628,.int 6 662,.ref 370,.ref 371],tp [s "R" 838],tp [.int 1 634],tp [.int 46 742,s "Func" 837,.int 4 622,.int 2 628,.int 6 662,.ref 373,.ref 374],tp [s "A" 840,s "R" 841],tp [.int 2 636,.int 1 634],tp [.int 47 744,s "Func" 839,.int 4 622,.int 2 628,.int 6 662,.ref 376,.ref 377],tp [s "T" 844],tp [.int 2 636],tp [.int 48 746,s "IComparable" 842,.int 3 620,.int 1 626,.int 0 843,.ref 379,.ref 380],tp [],tp [],tp [.int 49 748,s "GC" 845,.int 1 616,.int 3 630,.int 1 652,.ref 382,.ref 383],tp [],tp [],tp [.int 50 750,s "WeakRef" 846,.int 1 616,.int 2 628,.int 1 652,.ref 385,.ref 386],tp [],tp [],tp [.int 51 752,s "Type" 847,.int 1 616,.int 2 628,.int 1 652,.ref 388,.ref 389],tp [],tp [],tp [.int 52 754,s "Scheduler" 848,.int 1 616,.int 3 630,.int 1 652,.ref 391,.ref 392],tp [s "A" 850,s "B" 851,s "R" 852],tp [.int 2 636,.int 2 636,.int 1 634],tp [.int 53 756,s "Func" 849,.int 4 622,.int 2 628,.int 6 662,.ref 394,.ref 395],tp [s "T" 854],tp [.int 2 636],tp [.int 54 758,s "Predicate" 853,.int 4 622,.int 2 628,.int 6 662,.ref 397,.ref 398],tp [s "T" 856],tp [.int 0 632],tp [.int 55 760,s "ListEnum" 855,.int 1 616,.int 2 628,.int 1 652,.ref 400,.ref 401],tp [.ref 240,.ref 243,.ref 246,.ref 249,.ref 252,.ref 255,.ref 258,.ref 261,.ref 264,.ref 267,.ref 270,.ref 273,.ref 276,.ref 279,.ref 282,.ref 285,.ref 288,.ref 291,.ref 294,.ref 297,.ref 300,.ref 303,.ref 306,.ref 309,.ref 312,.ref 315,.ref 318,.ref 321,.ref 324,.ref 327,.ref 330,.ref 333,.ref 336,.ref 339,.ref 342,.ref 345,.ref 348,.ref 351,.ref 354,.ref 357,.ref 360,.ref 363,.ref 366,.ref 369,.ref 372,.ref 375,.ref 378,.ref 381,.ref 384,.ref 387,.ref 390,.ref 393,.ref 396,.ref 399,.ref 402],tp [],⟨.type "builtin_function_or_method",none,.fields #[.builtin "type.__prepare__",.type "type"],#[]⟩,⟨.type "dict",none,.dict #[E P "__module__" 865 cB,E P "__qualname__" 867 (s "TypeDef" 866),E P "__firstlineno__" 869 (.int 307 868),E P "__init__" 884 (.ref 417),E P "__static_attributes__" 904 (.ref 418)] 5,#[]⟩,tp [],DS 4 [(309,416)],cc "TypeDef" 860 307 407,⟨.type "frame",none,.plain,#[some (.ref 409),some (.ref 3),some (.ref 406),none,some cB,none,some (.ref 0)]⟩],
 fg P 411 870 cB "__init__" (st2 138 0) 309 8 ["self","tid","name","sort","flags","base","params","asm","word"] (q:="TypeDef.__init__"),
 Le P cB "TypeDef" 420 858 307 [("__init__",884,417)] 885 ["asm","base","bounds","cctor","events","fields","finaliser","flags","home","ifaces","impls","methods","name","params","props","sort","tid","under","variances"],
 LI P cB "FieldDef" 441 912 333 [("__init__",936,438)] 944 [(335,437)] 428 5,
 fg P 432 924 cB "__init__" (st2 139 0) 335 7 ["self","fid","owner","name","kind","access","flags"] (q:="FieldDef.__init__"),
 Le P cB "FieldDef" 441 912 333 [("__init__",936,438)] 937 ["access","fid","flags","kind","name","owner","value"],
 LI P cB "MethodDef" 462 952 343 [("__init__",977,459)] 992 [(345,458)] 449 5,
 fg P 453 964 cB "__init__" (st2 140 0) 345 8 ["self","mid","owner","name","access","flags","ret","params"] (q:="MethodDef.__init__"),
 Le P cB "MethodDef" 462 952 343 [("__init__",977,459)] 978 ["access","body","flags","gbounds","gnames","mid","name","native","ngen","owner","params","pflags","pnames","ret"],
 LI P cB "Store" 483 1000 360 [("__init__",1018,480)] 1026 [(362,479)] 470 5,
 fg P 474 1012 cB "__init__" (st2 141 0) 362 1 ["self"] (q:="Store.__init__"),
 Le P cB "Store" 483 1000 360 [("__init__",1018,480)] 1019 ["asms","entry","fields_","kt","methods","names","types"],
 fg P 488 1034 cB "plain_names" (st 142) 370 1 ["count","out","place"],
 fg P 495 1043 cB "make_store" (st 143) 375 0 ["store","row"],
 fg P 502 1051 cB "put_shell" (st 144) 385 2 ["store","row","base","shell","place"],
 fg P 509 1062 cB "new_asm" (st 145) 394 2 ["store","name"],
 fg P 516 1070 cB "usual_base" (st 146) 397 2 ["store","sort"],
 fg P 523 1078 cB "sort_flags" (st 147) 405 2 ["sort","flags"],
 fg P 530 1086 cB "add_type" (st 148) 411 7 ["store","asm","name","sort","flags","base","params","tid","key"],
 fg P 537 1101 cB "set_bounds" (st 149) 420 5 ["store","tid","i","flags","kinds"],
 fg P 544 1112 cB "set_variance" (st 150) 422 4 ["store","tid","i","va"],
 fg P 551 1122 cB "add_iface" (st 151) 424 3 ["store","tid","kind","t"],
 fg P 558 1132 cB "add_field" (st 152) 428 6 ["store","tid","name","kind","access","flags","t","fid"],
 fg P 565 1146 cB "put_field_at" (st 153) 434 7 ["store","fid","tid","name","kind","access","flags","old"],
 fg P 572 1160 cB "kept_flags" (st 154) 444 1 ["flags"],
 fg P 579 1167 cB "add_method" (st 155) 448 7 ["store","tid","name","access","flags","ret","params","t","mid"],
 fg P 586 1182 cB "put_method_at" (st 156) 455 8 ["store","mid","tid","name","access","flags","ret","params","old","t"],
 fg P 593 1198 cB "note_method" (st 157) 471 2 ["store","mid","m","t"],
 fg P 600 1208 cB "put_once" (st 158) 479 2 ["rows","row"],
 fg P 607 1216 cB "add_impl" (st 159) 482 5 ["store","tid","body_mid","decl_owner","decl_mid"],
 fg P 614 1227 cB "add_prop" (st 160) 484 7 ["store","tid","name","kind","getter","setter","index_kinds"],
 fg P 621 1240 cB "add_event" (st 161) 486 6 ["store","tid","name","kind","adder","remover"],
 fg P 628 1252 cB "self_kind" (st 162) 488 2 ["store","tid","t","args","place"],
 fg P 635 1263 cB "kind_with" (st 163) 496 3 ["store","tid","args","sort"],
 fg P 642 1273 cB "type_of" (st 164) 501 2 ["store","k","tid"],
 fg P 649 1282 cB "find_type" (st 165) 506 3 ["store","name","count","asm","tid"],
 fg P 656 1293 cB "base_of" (st 166) 514 2 ["store","k","kt","sort","t"],
 fg P 663 1304 cB "base_of_prim" (st 167) 533 2 ["store","k"],
 fg P 670 1312 cB "is_virtual" (st 168) 539 1 ["m"],
 fg P 677 1321 fW "_law_take" (st 170) 542 2 ["w","n"],
 fg P 684 1329 fW "_law_lines" (st 171) 545 0 [],
 fg P 691 1335 fW "_law_row" (st 172) 547 6 ["tid","name","sort","flags","base","parts","row","word","part","sign"],
 fg P 698 1351 fW "_law_model" (st 173) 559 0 ["modes","model","line","words","sort","flags","usual","pair","above","base","tid"],
 fg P 705 1368 fW "_law_seen" (st 174) 577 2 ["store","t"],
 fh P 712 1376 fW "_law_same" (st 175) 581 2,
 fh P 717 1382 fW "_law_only_bases" (st 176) 589 2,
 fg P 722 1388 fW "_law_change" (st 177) 596 5 ["store","model","op","tid","i"],
 fg P 729 1399 fW "_law_put" (st 178) 625 4 ["model","word","at","tid"],
 fg P 736 1409 fW "_law_once" (st 179) 634 2 ["rows","row"],
 fg P 743 1417 fW "_law_turn" (st 180) 637 4 ["model","op","tid","i","row","word","parts","new","at"],
 fh P 750 1432 fW "_law_found" (st 181) 676 3,
 fh P 755 1438 fW "law" (st 182) 703 1]
noncomputable def ev:Bool→List Obj→List Obj
 |_,[]=>[]
 |true,x::l=>x::ev false l
 |false,_::l=>ev true l
noncomputable def bt:Nat→List Obj→BT
 |0,_=> .nil
 |n+1,l=>match l with
  |[]=> .nil
  |x::l=> .node x (bt n (ev true l)) (bt n (ev false l))
noncomputable def up:List Obj→Nat→Obj→List Obj
 |[],_,_=>[]
 |_::l,0,o=>o::l
 |x::l,n+1,o=>x::up l n o
noncomputable def TB (P:Params):BT:=bt 12 (up (up (up ((OL P).take 15) 2 (boot_o_2 P)) 3 (boot_o_3 P)) 12 (DS 0 []))
noncomputable def Hz (P:Params):BT:=bt 12 (up (up ((OL P).take 47) 3 (md P dH 42 42)) 12 (DS 0 [(4,20),(9,40)]))
noncomputable def HA (P:Params):BT:=bt 12 (up (up ((OL P).take 49) 3 (md P dH 44 44)) 12 (DS 0 [(4,20),(9,40)]))
noncomputable def Ez (P:Params):BT:=bt 12 (up (up ((OL P).take 404) 3 (md P cB 144 144)) 12 (DS 0 [(4,20),(9,40),(45,54),(94,89),(103,96),(107,103),(113,110),(135,117),(139,124),(143,131),(148,138),(152,145),(156,152),(160,159),(162,166),(164,173),(169,180),(178,187),(183,194),(187,201),(190,208),(195,215),(210,222),(219,229),(227,236)]))
noncomputable def TF (P:Params):BT:=bt 12 (OL P)
noncomputable def H1 (P:Params):Heap:=⟨(OL P).toArray,{}⟩
noncomputable def pk:Nat→List Obj→List Nat→Frag
 |_,[],_=>[]
 |_,_::_,[]=>[]
 |n,x::l,a::m=>match Nat.beq n a with
  |true=>(n,x)::pk (n+1) l m
  |false=>pk (n+1) l (a::m)
noncomputable abbrev KA:List Nat:=[2,3,15,22,24,25,27,28,29,30,31,32,35,42,43,44,47,48,56,58,59,61,62,63,65,66,68,69,70,72,73,75,76,77,78,79,80,81,84,86,87,89,90,91,93,94,96,97,98,100,101,103,104,105,107,108,110,111,112,114,115,117,118,119,121,122,124,125,126,128,129,131,132,133,135,136,138,139,140,142,143,145,146,147,149,150,152,153,154,156,157,159,160,161,163,164,166,167,168,170,171,173,174,175,177,178,180,181,182,184,185,187,188,189,191,192,194,195,196,198,199,201,202,203,205,206,208,209,210,212,213,215,216,217,219,220,222,223,224,226,227,229,230,231,233,234,236,237,238,239,240,241,242,243,244,245,246,247,248,249,250,251,252,253,254,255,256,257,258,259,260,261,262,263,264,265,266,267,268,269,270,271,272,273,274,275,276,277,278,279,280,281,282,283,284,285,286,287,288,289,290,291,292,293,294,295,296,297,298,299,300,301,302,303,304,305,306,307,308,309,310,311,312,313,314,315,316,317,318,319,320,321,322,323,324,325,326,327,328,329,330,331,332,333,334,335,336,337,338,339,340,341,342,343,344,345,346,347,348,349,350,351,352,353,354,355,356,357,358,359,360,361,362,363,364,365,366,367,368,369,370,371,372,373,374,375,376,377,378,379,380,381,382,383,384,385,386,387,388,389,390,391,392,393,394,395,396,397,398,399,400,401,402,403,411,413,414,416,417,418,419,420,421,422,432,434,435,437,438,439,440,441,442,443,453,455,456,458,459,460,461,462,463,464,474,476,477,479,480,481,482,483,484,485,488,490,491,493,494,495,497,498,500,501,502,504,505,507,508,509,511,512,514,515,516,518,519,521,522,523,525,526,528,529,530,532,533,535,536,537,539,540,542,543,544,546,547,549,550,551,553,554,556,557,558,560,561,563,564,565,567,568,570,571,572,574,575,577,578,579,581,582,584,585,586,588,589,591,592,593,595,596,598,599,600,602,603,605,606,607,609,610,612,613,614,616,617,619,620,621,623,624,626,627,628,630,631,633,634,635,637,638,640,641,642,644,645,647,648,649,651,652,654,655,656,658,659,661,662,663,665,666,668,669,670,672,673,675,676,677,679,680,682,683,684,686,687,689,690,691,693,694,696,697,698,700,701,703,704,705,707,708,710,711,712,715,716,717,720,721,722,724,725,727,728,729,731,732,734,735,736,738,739,741,742,743,745,746,748,749,750,753,754,755,758,759]
noncomputable def K (P:Params):Frag:=pk 0 (OL P) KA
noncomputable abbrev zk (w:World):Frag:=K w.params
noncomputable abbrev jI:Env:={scope:=P0.main.scope,locals:=mainNs,globals:=mainNs,cells:=[],code:= .ref 13,frame:=some 14}
noncomputable abbrev cE:Code:= .body (behindTheImports P0) jI
noncomputable abbrev q0:Pos:=⟨0,0,0,0⟩
noncomputable abbrev tS (T:BT) (n k:Nat) (os:OsState):SharedT:=⟨T,n,{},#[],{},k,os⟩
theorem Gw: @segRunT=Fast.tw10110043849684766642:=Fast.te10110043849684766642
theorem qW:treeTable=Fast.tw14364793385576792824:=Fast.te14364793385576792824
theorem Gi (w:World):(fun os=>Fast.tw10110043849684766642 Fast.tw14364793385576792824 P0 w 11 (some (.ref 6)) 1 741 (tS (TB w.params) 15 187 os) (piecesOf ((P0.main.body.drop 0).take 35) jI cE q0 [topFrame q0]))=
  fun os=>some (.next,tS (Hz w.params) 47 300 os,cE,⟨40,0,40,13⟩):=by kernel_rfl
theorem AB (w:World):(fun os=>Fast.tw10110043849684766642 Fast.tw14364793385576792824 P0 (w.withFollow "special-get-raises" false) 11 (some (.ref 6)) 1 413 (tS (Hz w.params) 47 300 os) (piecesOf ((P0.main.body.drop 35).take 2) jI cE ⟨40,0,40,13⟩ [topFrame q0]))=
  fun os=>some (.next,tS (HA w.params) 49 358 os,cE,⟨42,0,42,8⟩):=by kernel_rfl
theorem AD (w:World):(fun os=>Fast.tw10110043849684766642 Fast.tw14364793385576792824 P0 (w.withFollow "special-get-raises" true) 11 (some (.ref 6)) 1 413 (tS (Hz w.params) 47 300 os) (piecesOf ((P0.main.body.drop 35).take 2) jI cE ⟨40,0,40,13⟩ [topFrame q0]))=
  fun os=>some (.next,tS (HA w.params) 49 358 os,cE,⟨42,0,42,8⟩):=by kernel_rfl
theorem CN (w:World):(fun os=>Fast.tw10110043849684766642 Fast.tw14364793385576792824 P0 w 11 (some (.ref 6)) 1 413 (tS (Hz w.params) 47 300 os) (piecesOf ((P0.main.body.drop 35).take 2) jI cE ⟨40,0,40,13⟩ [topFrame q0]))=
  fun os=>some (.next,tS (HA w.params) 49 358 os,cE,⟨42,0,42,8⟩):=
 byRow2 "special-get-raises" (P:=fun w=>(fun os=>Fast.tw10110043849684766642 Fast.tw14364793385576792824 P0 w 11 (some (.ref 6)) 1 413 (tS (Hz w.params) 47 300 os) (piecesOf ((P0.main.body.drop 35).take 2) jI cE ⟨40,0,40,13⟩ [topFrame q0]))=
  fun os=>some (.next,tS (HA w.params) 49 358 os,cE,⟨42,0,42,8⟩)) AB AD w
theorem CO (w:World):(fun os=>Fast.tw10110043849684766642 Fast.tw14364793385576792824 P0 w 11 (some (.ref 6)) 1 2532 (tS (HA w.params) 49 358 os) (piecesOf ((P0.main.body.drop 37).take 101) jI cE ⟨42,0,42,8⟩ [topFrame q0]))=
  fun os=>some (.next,tS (Ez w.params) 404 858 os,cE,⟨306,0,306,9⟩):=by kernel_rfl
theorem AA (w:World):(fun os=>Fast.tw10110043849684766642 Fast.tw14364793385576792824 P0 w 11 (some (.ref 6)) 1 2238 (tS (Ez w.params) 404 858 os) (piecesOf ((P0.main.body.drop 138).take 45) jI cE ⟨306,0,306,9⟩ [topFrame q0]))=
  fun os=>some (.next,tS (TF w.params) 760 1444 os,cE,⟨703,0,724,64⟩):=by kernel_rfl
theorem IL: @topGo=Fast.tw15667345088766844465:=Fast.te15667345088766844465
theorem Dy: @topRun=Fast.tw14082659384304107361:=Fast.te14082659384304107361
theorem Df: @segRun=Fast.tw14374325043358763698:=Fast.te14374325043358763698
theorem EW: @denote=Fast.tw11892475500146522536:=Fast.te11892475500146522536
theorem qQ {p w n₀ ann b n s t r} (h:Fast.tw10110043849684766642 Fast.tw14364793385576792824 p w n₀ ann b n s t=r):segRunT treeTable p w n₀ ann b n s t=r:=by rw [Gw,qW];exact h
theorem IM {p w n₀ ann n s t s' c c' p' B} (h:Fast.tw15667345088766844465 Fast.tw14364793385576792824 p w n₀ ann n s t=some (s',⟨W.Fast.tw11892475500146522536 Fast.tw14364793385576792824 c,c',p',B⟩)):
  topGo treeTable p w n₀ ann n s t=some (s',⟨denote treeTable c,c',p',B⟩):=by
 rw [IL,qW,EW];exact h
theorem Dz {p w n₀ ann n s t r} (h:Fast.tw14082659384304107361 Fast.tw14364793385576792824 p w n₀ ann n s t=r):topRun treeTable p w n₀ ann n s t=r:=by rw [Dy,qW];exact h
theorem Dg {p w n₀ ann b n s t r} (h:Fast.tw14374325043358763698 Fast.tw14364793385576792824 p w n₀ ann b n s t=r):segRun treeTable p w n₀ ann b n s t=r:=by rw [Df,qW];exact h
noncomputable abbrev aR:Option Value:=some (.ref 6)
theorem J5 (w:World):(fun os=>Fast.tw15667345088766844465 Fast.tw14364793385576792824 P0 w 11 aR 12 ⟨boot_heap w.params,#[],boot_drawn,boot_toks,os⟩ (topStub P0))=
  fun os=>some ((tS (TB w.params) 15 187 os).abs,⟨W.Fast.tw11892475500146522536 Fast.tw14364793385576792824 cE,cE,q0,[topFrame q0]⟩):=by kernel_rfl
theorem BQ (w:World):(fun os=>Fast.tw14374325043358763698 Fast.tw14364793385576792824 P0 w 11 aR 1 1 (tS (TB w.params) 15 187 os).abs (blockOf (behindTheImports P0) jI cE q0 [topFrame q0]))=
  fun os=>some (.next,(tS (TB w.params) 15 187 os).abs,cE,q0):=by kernel_rfl
theorem IG (w:World):(fun os=>Fast.tw14082659384304107361 Fast.tw14364793385576792824 P0 w 11 aR 2 (tS (TF w.params) 760 1444 os).abs ⟨doneF .next,cE,⟨703,0,724,64⟩,[topFrame q0]⟩)=
  fun os=>some ⟨H1 w.params,#[],{},1444,os⟩:=by kernel_rfl
theorem BR:behindTheImports P0=((P0.main.body.drop 0).take 35)++(((P0.main.body.drop 35).take 2)++(((P0.main.body.drop 37).take 101)++(((P0.main.body.drop 138).take 45)++[]))):=by kernel_rfl
theorem CT (w:World) (os:OsState):topRun treeTable P0 w 11 aR (12+(1+(741+(413+(2532+(2238+2)))))) ⟨boot_heap w.params,#[],boot_drawn,boot_toks,os⟩ (topStub P0)=(some ⟨H1 w.params,#[],{},1444,os⟩):=by have k4:topRun treeTable P0 w 11 aR 2 (tS (TF w.params) 760 1444 os).abs (restOf [] jI cE ⟨703,0,724,64⟩ [topFrame q0])=(some ⟨H1 w.params,#[],{},1444,os⟩):=Dz (congrFun (IG w) os);have k3:topRun treeTable P0 w 11 aR (2238+2) (tS (Ez w.params) 404 858 os).abs (restOf (((P0.main.body.drop 138).take 45)++[]) jI cE ⟨306,0,306,9⟩ [topFrame q0])=(some ⟨H1 w.params,#[],{},1444,os⟩):=piece_app (segRun_of (qQ (congrFun (AA w) os))) k4;have k2:topRun treeTable P0 w 11 aR (2532+(2238+2)) (tS (HA w.params) 49 358 os).abs (restOf (((P0.main.body.drop 37).take 101)++(((P0.main.body.drop 138).take 45)++[])) jI cE ⟨42,0,42,8⟩ [topFrame q0])=(some ⟨H1 w.params,#[],{},1444,os⟩):=piece_app (segRun_of (qQ (congrFun (CO w) os))) k3;have k1:topRun treeTable P0 w 11 aR (413+(2532+(2238+2))) (tS (Hz w.params) 47 300 os).abs (restOf (((P0.main.body.drop 35).take 2)++(((P0.main.body.drop 37).take 101)++(((P0.main.body.drop 138).take 45)++[]))) jI cE ⟨40,0,40,13⟩ [topFrame q0])=(some ⟨H1 w.params,#[],{},1444,os⟩):=piece_app (segRun_of (qQ (congrFun (CN w) os))) k2;have k0:topRun treeTable P0 w 11 aR (741+(413+(2532+(2238+2)))) (tS (TB w.params) 15 187 os).abs (restOf (((P0.main.body.drop 0).take 35)++(((P0.main.body.drop 35).take 2)++(((P0.main.body.drop 37).take 101)++(((P0.main.body.drop 138).take 45)++[])))) jI cE q0 [topFrame q0])=(some ⟨H1 w.params,#[],{},1444,os⟩):=piece_app (segRun_of (qQ (congrFun (Gi w) os))) k1;rw [←BR] at k0;exact go_top (IM (congrFun (J5 w) os)) (piece_block (Dg (congrFun (BQ w) os)) k0)
noncomputable abbrev BI:=PySem.Challenge.rw_xm0313_01
noncomputable abbrev V0:Program:=view P0 [182]
noncomputable abbrev LOO:List Str:=[S "CF_END",S "CM_END",S "RuneError",S "BadKind",S "VOID",S "BOOL",S "CHAR",S "I1",S "U1",S "I2",S "U2",S "I4",S "U4",S "I8",S "U8",S "NINT",S "OBJECT",S "STRING",S "NULLK",S "PRIM_END",S "R_PRIM",S "R_CLASS",S "R_VALUE",S "R_ARRAY",S "R_BYREF",S "R_VAR",S "R_MVAR",S "R_BOXED",S "R_ROREF",S "R_FTN",S "R_RAW",S "DEEPEST_KIND",S "HEAVIEST_KIND",S "PRIM_TID",S "TID_PRIM",S "ARRAY_TID",S "NULLABLE_TID",S "KindTable",S "inner_kinds",S "row_level",S "row_length",S "check_kind_row",S "check_named",S "check_args",S "may_stand",S "class_kind",S "value_kind",S "prim_kind",S "var_kind",S "kind_sort",S "elem_of",S "tid_of",S "args_of",S "is_value",S "is_var",S "close",S "close_in",S "with_inner",S "box_of",S "pick_arg",S "S_CLASS",S "S_STRUCT",S "S_IFACE",S "S_DELEGATE",S "S_ENUM",S "TF_ABSTRACT",S "TF_SEALED",S "TF_STATICS",S "VA_NONE",S "VA_OUT",S "VA_IN",S "GB_STRUCT",S "MF_STATIC",S "MF_VIRTUAL",S "MF_NEWSLOT",S "MF_CTOR",S "MF_CCTOR",S "MF_SPECIAL",S "T_OBJECT",S "T_VALUETYPE",S "T_ENUM",S "T_STRING",S "T_ARRAY",S "T_DELEGATE",S "T_EXCEPTION",S "T_NULLABLE",S "T_BOOL",S "T_CHAR",S "T_I1",S "T_U1",S "T_I2",S "T_U2",S "T_I4",S "T_U4",S "T_I8",S "T_U8",S "T_NINT",S "T_VOID",S "T_NULLREF",S "T_INDEX",S "T_CAST",S "T_ARITH",S "T_DIVZERO",S "T_OVERFLOW",S "T_ARRAYTYPE",S "T_TYPEINIT",S "T_INVALIDOP",S "T_OOM",S "T_ARG",S "T_ARGRANGE",S "T_NOTSUPP",S "T_DISPOSABLE",S "T_IENUM",S "T_IENUMERATOR",S "T_LIST",S "T_TASK",S "T_TASK1",S "T_BUILDER",S "T_BUILDER1",S "T_MACHINE",S "T_CONSOLE",S "T_ACTION",S "T_ACTION1",S "T_FUNC1",S "T_FUNC2",S "T_COMPARABLE",S "T_GC",S "T_WEAK",S "T_TYPE",S "T_SCHED",S "T_FUNC3",S "T_PRED",S "T_LISTENUM",S "T_END",S "CORE_ROWS",S "TypeDef",S "FieldDef",S "MethodDef",S "Store",S "plain_names",S "make_store",S "put_shell",S "new_asm",S "usual_base",S "sort_flags",S "add_type",S "set_bounds",S "set_variance",S "add_iface",S "add_field",S "put_field_at",S "kept_flags",S "add_method",S "put_method_at",S "note_method",S "put_once",S "add_impl",S "add_prop",S "add_event",S "self_kind",S "kind_with",S "type_of",S "find_type",S "base_of",S "base_of_prim",S "is_virtual",S "_law_take",S "_law_lines",S "_law_row",S "_law_model",S "_law_seen",S "_law_same",S "_law_only_bases",S "_law_change",S "_law_put",S "_law_once",S "_law_turn",S "_law_found"]
noncomputable abbrev HK:Hook:=kHook K KA (fun P=>by kernel_rfl)
noncomputable abbrev Xt0 (s:Shared):Bool:=xlAt V0 [] s&&recOk (RowW.records BI.row.toRowW) s
theorem GB (w:World):((boot_heap w.params).isNs mainGlobals&&(#[]:Array GenState).size==0,(boot_heap w.params).objs.size,(boot_heap w.params).nsMap mainGlobals "__annotations__")=(true,11,aR):=by kernel_rfl
noncomputable abbrev sF (w:World) (os:OsState):Shared:=⟨H1 w.params,#[],{},1444,os⟩
theorem JH (w:World):(fun os=>(staticsOk (importedModules P0.main.body) (boot_heap w.params) (H1 w.params)&&namesBound P0 (H1 w.params)&&gensDone (sF w os)&&laidKept (boot_heap w.params) (H1 w.params)))=fun Z=>true:=by kernel_rfl
theorem JI (w:World):(fun os=>seen ((recsOf V0).map (·.name)) (ownsOf V0) [] {sF w os with gens:= #[]})=fun Z=>expectedOf V0:=by kernel_rfl
theorem JJ (w:World):(fun os=>(sF w os).heap.bltView)=fun Z=>bltViewBooted:=by kernel_rfl
theorem JK (w:World):(fun os=>((sF w os).heap.keysOk (looseW V0 LOO) ((recsOf V0).map (·.name)) ((litsOf V0).map (·.1)) ((clssOf V0 (looseW V0 LOO)).map (·.name))&&(sF w os).heap.accountedOkI (importedModules P0.main.body)&&(sF w os).heap.isNs mainGlobals&&(sF w os).heap.isNs builtinsNs&&tablesOk V0 (sF w os).heap&&Xt0 (sF w os)&&(if true then (sF w os).gens.size==0 else !leftWithCleanup (sF w os).gens)))=fun Z=>true:=by kernel_rfl
theorem JL (w:World):(fun os=>tabsOk V0 (sF w os))=fun Z=>true:=by kernel_rfl
theorem JM (w:World):(fun os=>(pinSeenD V0 (drecsOf V0) (sF w os),plainSeenE V0 (looseW V0 LOO) (sF w os),plainSeenD V0 LOO (sF w os),wideSeen V0 (sF w os),clsSeenW V0 LOO (sF w os)))=fun Z=>(pinGoodD (drecsOf V0),plainGoodE V0 (looseW V0 LOO),plainGoodD V0 LOO,wideGood V0,clsGoodW V0 LOO):=by kernel_rfl
theorem JN (w:World):(fun os=>HK.obs (sF w os))=fun Z=>HK.val w:=by kernel_rfl
theorem JZ:opening P0=plainProg P0.main.scope.names:=by kernel_rfl
theorem zo (s:Shared):fenceModules? P0 s=some s:=by kernel_rfl
theorem left0:LeftO P0 V0 LOO Xt0 HK.obs HK.val 6000:=
 LeftO.of_pieces (H₀:=boot_heap) (H₁:=H1) (m₀:=11) (ann:=aR) (boot_open JZ (by decide) zo) GB CT (by decide)
  (fun w=>by
   have F:=JI w;have E:=JJ w;have D:=JK w;have C:=JL w;have B:=JM w;have G:=JH w;have A:=JN w;funext os
   have f1:=congrFun G os;have f2:=congrFun F os;have f3:=congrFun E os;have f4:=congrFun D os;have f5:=congrFun C os;have f6:=congrFun B os;have f7:=congrFun A os;exact looks_pair f1 (looks_pair (looks_pair f2 (looks_pair f3 (looks_pair f4 (looks_pair f5 f6)))) f7))
noncomputable def tE:=And.intro W.Fast.te11788848310118352699 (And.intro Fast.te9807087744658564304 (And.intro Fast.te12862048085361865435 (And.intro Fast.te8377067652309620493 (And.intro Fast.te18344453789297297638 (And.intro Fast.te3471404346716756564 (And.intro Fast.te14412699480532031325 (And.intro Fast.te8326940854005059898 (And.intro Fast.te5923862056798008813 (And.intro Fast.te17691160309236699985 (And.intro Fast.te13343964577679436407 (And.intro Fast.te17119622794617984870 (And.intro Fast.te17868728402115742887 (And.intro Fast.te2357444279172408678 (And.intro Fast.te13582783067957832011 Fast.te10792542408131684335))))))))))))))
theorem Gq:namesResolve BI.row.prog=true:=by kernel_rfl
theorem Gr:noRoadLSs {strict:=!(importedModules BI.row.prog.main.body).all cThrough.contains,foot:=none,bare:=(["vars","dir","locals"]:List Str).filter (readsOut BI.row.prog BI.row.prog.main.body)} BI.row.prog.main.body=true:=by simp only [tE];kernel_rfl
theorem Gs:namesMeet BI.row.prog BI.row.prog.main.body (fun Z n=>attrL n)=true:=by kernel_rfl
theorem Gu:looksOpen BI.row.prog=true:=by unfold looksOpen;rw [Gq,Gr,Gs];simp only [tE];kernel_rfl
theorem said1:BI.wellSaid=true:=by unfold OpenLaw.wellSaid OpenRow.wellSaid OpenRow.partSaid;rw [Gu];simp only [tE];kernel_rfl
section
open scoped Classical
variable {a:Addr} {o:Obj} {n:Nat} {h:Heap} {t:Tok}
section
variable {prog:Program} {w:World} {A:Around} {E:zQ}
def pK (prog:Program) (w:World) (A:Around) (h:Heap) (v:Value) (i:Int) (d:Nat):Prop:=
 ∀(E:zQ) (s:Shared) (Q:Int→Shared→Prop),s.heap=h→Q i {s with toks:=s.toks+d}→wpAny (model prog w) A (pyHash v) Q E s
def HL (prog:Program) (w:World) (A:Around) (h:Heap) (u v:Value) (b:Bool):Prop:=
 ∀(E:zQ) (s:Shared) (Q:Bool→Shared→Prop),s.heap=h→Q b s→wpAny (model prog w) A (eqBool u v) Q E s
inductive jA (prog:Program) (w:World) (A:Around) (h:Heap):List Value→List Int→Nat→Prop
 |nil:jA prog w A h [] [] 0
 |cons {v i d vs is n}:pK prog w A h v i d→jA prog w A h vs is n→jA prog w A h (v::vs) (i::is) (d+n)
inductive oj (prog:Program) (w:World) (A:Around) (h:Heap):List (Value×Value)→List Bool→Prop
 |nil:oj prog w A h [] []
 |cons {u v b l bs}:HL prog w A h u v b→oj prog w A h l bs→oj prog w A h ((u,v)::l) (b::bs)
theorem jn {s:Shared} {items:Array Value} {is:List Int} {d:Nat} {Q:Int→Shared→Prop} (hu:A.units<cLine) (ho:s.heap.get? a=some o) (G:o.cls= .type "tuple") (hd:o.data= .seq items n)
  (H:jA prog w A.in1 s.heap items.toList is d) (h:Q (reduceHash (Builtin.Tuple.tupleHashOf is)) {s with toks:=s.toks+(d+1)}):wpAny (model prog w) A (pyHash (.ref a)) Q E s:=by
 have hT:s.TypeIs (.ref a) "tuple" :=⟨o,ho,G⟩
 unfold pyHash;first|unfold pyHashByItsType|skip
 first|refine bP (wpAny_cRoomFor_or (.inr hu) ?_)|skip
 refine bP (wpAny_specialOf hT F.slot_tuple_hash.lookup ?_);show wpAny _ _ (if (some (Value.builtin "tuple.__hash__")==some Value.none)=true then _ else _) Q E s;rw [aS (by rw [beq_builtin_none];exact Bool.false_ne_true)];refine bP (wpAny_specialOf hT F.slot_tuple_hash.lookup ?_);show wpAny _ _ (callSpecialIfBoundUnlessNone? (.ref a) "__hash__" _>>=_) Q E s;refine bP (wpAny_callSpecialIfBoundUnlessNone?_slot hT F.slot_tuple_hash (wpAny_call_entry F.slot_tuple_hash hT F.entry_tuple_hash ?_ (F.args_tuple_hash_1 _)));show wpAny _ _ (Builtin.Tuple.tupleItemsOf (.ref a)>>=_) _ _ s;refine bP (wpAny_tupleItemsOf ho hd ?_);refine bP ?_;rw [←Array.forIn_toList];refine wpAny_forIn_list _
  (fun rest (b:Array Int) Y=>∃done left dd dl,is=done++left∧d=dd+dl∧jA prog w A.in1 s.heap rest left dl∧b.toList=done∧Y={s with toks:=s.toks+dd})
  _ ?_ ?_ _ _ ⟨[],is,0,d,rfl,by exact k6,H,rfl,rfl⟩
 ·rintro x rest b Y ⟨done,left,dd,dl,T,V,hl,hb,rfl⟩
  cases hl with
  | @cons _ i dn _ is' nn S hl'=>
   refine bP (S _ _ _ rfl ?_);first
    |exact dY ⟨done++[i],is',dd+dn,nn,by simp [T],by exact k7 V,hl',by simp [hb],by simp [Nat.add_assoc]⟩
    |exact bP (dY (dY ⟨done++[i],is',dd+dn,nn,by simp [T],by omega,hl',by simp [hb],by simp [Nat.add_assoc]⟩))
 ·rintro b Y ⟨done,left,dd,dl,T,V,hl,hb,rfl⟩
  cases hl;rw [List.append_nil] at T;subst T;show wpAny _ _ (retInt (Builtin.Tuple.tupleHashOf b.toList)) _ _ _;rw [hb];refine wpAny_ret_mkInt ?_;show wpAny _ _ (if (decide (-(2:Int)^63≤Builtin.Tuple.tupleHashOf is)&&decide (Builtin.Tuple.tupleHashOf is<2^63))=true then _ else _) Q E _;unfold reduceHash at h;by_cases hr:(decide (-(2:Int)^63≤Builtin.Tuple.tupleHashOf is)&&decide (Builtin.Tuple.tupleHashOf is<2^63))=true
  ·rw [bk hr]
   rw [bk hr] at h;exact dY (by simpa [Nat.add_assoc,V] using h)
  ·rw [aS hr]
   rw [aS hr] at h;exact bP (wpAny_rule (dY (by simpa [Nat.add_assoc,V] using h)))
theorem n5 {s:Shared} {g ob:Obj} {b:Addr} {xs ys:Array Value} {na nb:Nat} {bs:List Bool} {P:Fin→Shared→Prop} (f:s.heap.get? a=some g) (hca:g.cls= .type "tuple") (hda:g.data= .seq xs na)
  (c:s.heap.get? b=some ob) (m:ob.cls= .type "tuple") (hdb:ob.data= .seq ys nb) (H:oj prog w A s.heap (List.zip xs.toList ys.toList) bs)
  (h:P (.done (.ret (.bool (bs.all id&&xs.size==ys.size)))) s):
  wpAny (model prog w) A (Builtin.«tuple.__eq__» ⟨[.ref a,.ref b],[]⟩) P E s:=by
 have hTb:s.TypeIs (.ref b) "tuple" :=⟨ob,c,m⟩
 show wpAny _ _ (isInstance (.ref b) (.type "tuple")>>=_) _ _ s;refine bP (wpAny_isInstance hTb isSubtype_tuple_tuple ?_);simp only [Bool.not_true,Bool.false_eq_true,if_false];refine bP (wpAny_tupleItemsOf f hda ?_);refine bP (wpAny_tupleItemsOf c hdb ?_);refine bP ?_;refine wpAny_forIn_list _
  (fun rest r Y=>r.1=none∧Y=s∧∃bs',oj prog w A s.heap rest bs'∧bs'.all id=bs.all id)
  _ ?_ ?_ _ _ ⟨rfl,rfl,bs,H,rfl⟩
 ·rintro ⟨u,v⟩ rest r Y ⟨hr,rfl,bs',hb,J⟩
  cases hb with
  | @cons _ _ b1 _ LV S hb'=>
   refine bP (S _ _ _ rfl ?_);cases b1 with
   |true=>simp only [Bool.not_true,Bool.false_eq_true,if_false];exact dY ⟨rfl,rfl,LV,hb',by rw [←J];simp⟩
   |false=>
    simp only [Bool.not_false,if_true];have hf:bs.all id=false:=by rw [←J];simp
    rw [hf,Bool.false_and] at h;exact bP (dY (dY (dY h)))
 ·rintro ⟨r1,r2⟩ Y ⟨hr,rfl,bs',hb,J⟩
  simp only at hr;subst hr;cases hb;refine dY ?_;show P (.done (.ret (.bool (xs.size==ys.size)))) Y;have hf:bs.all id=true:=by rw [←J];rfl
  rw [hf,Bool.true_and] at h;exact h
theorem gw {g ob:Obj} {b:Addr} {xs ys:Array Value} {na nb:Nat} {bs:List Bool} (hu:A.units<cLine) (f:h.get? a=some g) (hca:g.cls= .type "tuple") (hda:g.data= .seq xs na)
  (c:h.get? b=some ob) (m:ob.cls= .type "tuple") (hdb:ob.data= .seq ys nb) (H:oj prog w A.in1 h (List.zip xs.toList ys.toList) bs) {r:Bool} (hr:(bs.all id&&xs.size==ys.size)=r) (hrefl:a=b→r=true):
  HL prog w A h (.ref a) (.ref b) r:=by
 intro E s Q hh N;subst hh;unfold eqBool;try with_reducible refine wpAny_holding ?_
 show wpAny _ _ (if (Value.ref a==Value.ref b)=true then _ else _) Q E s;by_cases hab:(Value.ref a==Value.ref b)=true
 ·rw [bk hab]
  have e:a=b:=by have:=eq_of_beq hab;injection this
  exact bP (wpAny_rule (dY (by rw [hrefl e] at N;exact N)))
 ·rw [aS hab]
  exact bP (wpAny_richCompare_same_room (op:= .Eq) ⟨g,f,hca⟩ ⟨ob,c,m⟩ F.slot_tuple_eq
   (wpAny_call_entry F.slot_tuple_eq ⟨g,f,hca⟩ F.entry_tuple_eq (n5 f hca hda c m hdb H ⟨_,rfl,(fun e=>nomatch e),wpAny_truthy_bool (by rw [hr];exact N)⟩) (F.args_tuple_eq_2 _ _)) hu)
def lN (prog:Program) (w:World) (h:Heap) (n:Nat) (v:Value):Prop:=
 ∀(A:Around) (E:zQ) (s:Shared) (Q:Bool→Shared→Prop),s.heap=h→Q true s→wpAny (model prog w) A (eqIsQuiet n v) Q E s
theorem fZ {items:Array Value} {k:Nat} (ho:h.get? a=some o) (G:o.cls= .type "tuple") (hd:o.data= .seq items k) (H:∀v∈items.toList,lN prog w h n v):lN prog w h (n+1) (.ref a):=by
 intro A E s Q hh N;subst hh;have hT:s.TypeIs (.ref a) "tuple" :=⟨o,ho,G⟩
 unfold eqIsQuiet;refine bP (wpAny_specialOf hT F.slot_tuple_eq.lookup ?_);show wpAny _ _ (isInstance (.ref a) (.type "tuple")>>=_) _ _ s;refine bP (wpAny_isInstance hT isSubtype_tuple_tuple ?_);simp only [Bool.not_true,Bool.false_eq_true,if_false];refine bP (wpAny_seqItems ho hd ?_);refine bP ?_;show wpAny _ _ (forIn items _ _) _ _ s;rw [←Array.forIn_toList];refine wpAny_forIn_list _ (fun rest r Y=>r.1=none∧Y=s∧∀v∈rest,lN prog w s.heap n v) _ ?_ ?_ _ _ ⟨rfl,rfl,H⟩
 ·rintro v rest r Y ⟨hr,rfl,J⟩
  refine bP (J v List.mem_cons_self _ _ _ _ rfl ?_);simp only [Bool.not_true,Bool.false_eq_true,if_false];exact dY ⟨rfl,rfl,fun u R=>J u (List.mem_cons_of_mem _ R)⟩
 ·rintro ⟨r1,r2⟩ Y ⟨hr,rfl,_⟩
  simp only at hr;subst hr;exact dY N
theorem gD {v:Value} (Z:carriedByValue v=true):lN prog w h n v:=by intro A E s Q hh N;rw [eqIsQuiet_byValue n Z];exact dY N
end
set_option genInjectivity true in
inductive gi where
 |pair (a b:Int)
 |named (a b:Int) (l:List Int)
noncomputable def gi.ctorIdx (x:gi):Nat:= @gi.casesOn (fun _a=>Nat) x (fun _a _a=>0) (fun _a _a _a=>1)
set_option genInjectivity true in
structure ru where
 LQ:Int
 name:Str
 n:Int
section
variable (prog:Program) (w:World)
def fu (h:Heap) (x:Addr) (vs:zV):Prop:=∃o items n,h.get? x=some o∧o.cls= .type "tuple" ∧o.data= .seq items n∧items.toList=vs
def mH (h:Heap):gi→Addr→Prop
 | .pair a b,x=>∃I tb,fu h x [.int a I,.int b tb]
 | .named a b l,x=>∃I tb y,fu h x [.int a I,.int b tb,.ref y]∧IsTupleKey (intKind prog w) h l y
def wW (h:Heap) (k:ru) (x:Addr):Prop:=∃I tn tb,fu h x [.int k.LQ I,.str k.name tn,.int k.n tb]
noncomputable def gi.hash:gi→Int
 | .pair a b=>reduceHash (Builtin.Tuple.tupleHashOf [(intKind prog w).hash a,(intKind prog w).hash b])
 | .named a b l=>reduceHash (Builtin.Tuple.tupleHashOf [(intKind prog w).hash a,(intKind prog w).hash b,tupleKeyHash (intKind prog w) l])
noncomputable def ru.hash (k:ru):Int:=reduceHash (Builtin.Tuple.tupleHashOf [(intKind prog w).hash k.LQ,(strKind prog w).hash k.name,(intKind prog w).hash k.n])
noncomputable def gi.draws:gi→Nat
 | .pair _ _=>3
 | .named _ _ l=>1+(1+(l.length+1+0))+1
variable {prog:Program} {w:World}
theorem fu.inj {x:Addr} {vs us:zV} (a:fu h x vs) (b:fu h x us):vs=us:=by refine lB a fun o i n ho G hd hi=>lB b fun U i' n' ho' K C B=>?_;obtain rfl:o=U:=bw (ho.symm.trans ho');rw [hd] at C;injection C with S;subst S;rw [←hi,B]
theorem fu.other {h':Heap} {x d:Addr} {es ep} {vs:zV} (a:fu h x vs) (ho:h.get? d=some o) (hd:o.data= .dict es ep) (hs:Heap.SameBut d h h'):fu h' x vs:=by
 refine lB a fun U i n ho' G C hi=>?_;have hne:x≠d:=by rintro rfl;obtain rfl:U=o:=bw (ho'.symm.trans ho);rw [hd] at C;exact nomatch C
 exact ⟨U,i,n,(hs.2 x hne).trans ho',G,C,hi⟩
theorem hashInt {A:Around} {i:Int}:pK prog w A h (.int i t) ((intKind prog w).hash i) 1:=fun E s Q Z N=>(intKind prog w).pyHash (k:=i) (gH rfl) N
theorem hashStr {A:Around} {i:Str}:pK prog w A h (.str i t) ((strKind prog w).hash i) 1:=fun E s Q Z N=>(strKind prog w).pyHash (k:=i) (by simp [PySem.strKind,Value.isStrOf]) N
theorem Cm {A:Around} {l:List Int} {y:Addr} (hu:A.units<cLine) (O:IsTupleKey (intKind prog w) h l y):pK prog w A h (.ref y) (tupleKeyHash (intKind prog w) l) (l.length+1):=
 fun E s Q hh N=>by subst hh;exact wpAny_pyHash_tuple hu O N
theorem gp {A:Around} {i j:Int} {u:Tok}:HL prog w A h (.int i t) (.int j u) (decide (i=j)):=fun E s Q Z N=>(intKind prog w).eqBool (a:=i) (b:=j) (gH rfl) (gH rfl) N
theorem E0 {A:Around} {i j:Str} {u:Tok}:HL prog w A h (.str i t) (.str j u) (decide (i=j)):=fun E s Q Z N=>(strKind prog w).eqBool (a:=i) (b:=j) (by simp [PySem.strKind,Value.isStrOf]) (by simp [PySem.strKind,Value.isStrOf]) N
theorem E1 {A:Around} {l k:List Int} {y z:Addr} (hu:A.units<cLine) (O:IsTupleKey (intKind prog w) h l y) (hz:IsTupleKey (intKind prog w) h k z):HL prog w A h (.ref y) (.ref z) (decide (l=k)):=
 fun E s Q hh N=>by subst hh;exact wpAny_eqBool_tuple hu O hz N
end
noncomputable def jW (prog:Program) (w:World):HeapKind prog w gi where
 is:=mH prog w
 hash:=gi.hash prog w
 draws:=gi.draws
 room:=fun A=>A.units+1<cLine
 inj:=fun {h a x y} X O=>by
  cases x<;>cases y
  ·refine ji X fun I tb p=>ji O fun M L p'=>?_
   have:=p.inj p';simp only [List.cons.injEq,Value.int.injEq] at this;rw [this.1.1,this.2.1.1]
  ·refine ji X fun I tb p=>t_ O fun M L y p' u=>?_
   have:=p.inj p';simp at this
  ·refine t_ X fun I tb y p u=>ji O fun M L p'=>?_
   have:=p.inj p';simp at this
  ·refine t_ X fun I tb y p q=>t_ O fun M L y' p' q'=>?_
   have:=p.inj p';simp only [List.cons.injEq,Value.int.injEq,Value.ref.injEq] at this;obtain ⟨⟨rfl,_⟩,⟨rfl,_⟩,rfl,_⟩:=this;rw [q.inj q']
 keeps:=fun {h h' k a d o es ep} x ho hd hs=>by
  cases k
  ·refine ji x fun I tb p=>?_
   exact zN I tb (p.other ho hd hs)
  ·refine t_ x fun I tb y p q=>?_
   exact Fj I tb y (p.other ho hd hs) (q.keeps ho hd hs)
 pyHash:=fun {A E s k a Q} hu hk h=>by
  cases k
  ·refine ua hk fun I tb o items n ho G hd hi=>?_
   exact jn (Jh hu) ho G hd (hi▸.cons hashInt (.cons hashInt .nil)) h
  ·obtain ⟨I,tb,y,⟨o,items,n,ho,G,hd,hi⟩,q⟩:=hk
   exact jn (Jh hu) ho G hd (hi▸.cons hashInt (.cons hashInt (.cons (Cm hu q) .nil))) h
 eqBool:=fun {A E s x y a b Q} hu X O h=>by
  have R:A.units<cLine:=by exact Jh hu
  cases x<;>cases y
  ·refine ua X fun I tb o items n ho G hd hi=>ua O fun M L U D n' ho' K C B=>gw R ho G hd ho' K C (by rw [hi,B];exact .cons gp (.cons gp .nil)) (r:=decide _) ?_ ?_ _ _ _ rfl h
   ·have T:items.size=2:=by rw [←Array.length_toList,hi];rfl
    have V:D.size=2:=by rw [←Array.length_toList,B];rfl
    simp [T,V,Bool.decide_and]
   ·rintro rfl
    obtain rfl:o=U:=bw (ho.symm.trans ho');rw [hd] at C;injection C with S;subst S;rw [hi] at B;simp only [List.cons.injEq,Value.int.injEq] at B;exact gH (by rw [B.1.1,B.2.1.1])
  ·refine ua X fun I tb o items n ho G hd hi=>?_
   obtain ⟨M,L,y',⟨U,D,n',ho',K,C,B⟩,q⟩:=O;refine gw R ho G hd ho' K C (by rw [hi,B];exact .cons gp (.cons gp .nil)) (r:=decide _) ?_ ?_ _ _ _ rfl h
   ·have T:items.size=2:=by rw [←Array.length_toList,hi];rfl
    have V:D.size=3:=by rw [←Array.length_toList,B];rfl
    simp [T,V]
   ·rintro rfl
    obtain rfl:o=U:=bw (ho.symm.trans ho');rw [hd] at C;injection C with S;subst S;rw [hi] at B;simp at B
  ·obtain ⟨I,tb,y',⟨o,items,n,ho,G,hd,hi⟩,q⟩:=X
   refine ua O fun M L U D n' ho' K C B=>gw R ho G hd ho' K C (by rw [hi,B];exact .cons gp (.cons gp .nil)) (r:=decide _) ?_ ?_ _ _ _ rfl h
   ·have T:items.size=3:=by rw [←Array.length_toList,hi];rfl
    have V:D.size=2:=by rw [←Array.length_toList,B];rfl
    simp [T,V]
   ·rintro rfl
    obtain rfl:o=U:=bw (ho.symm.trans ho');rw [hd] at C;injection C with S;subst S;rw [hi] at B;simp at B
  ·obtain ⟨I,tb,y,⟨o,items,n,ho,G,hd,hi⟩,q⟩:=X
   obtain ⟨M,L,y',⟨U,D,n',ho',K,C,B⟩,q'⟩:=O;refine gw R ho G hd ho' K C (by rw [hi,B];exact .cons gp (.cons gp (.cons (E1 hu q q') .nil))) (r:=decide _) ?_ ?_ _ _ _ rfl h
   ·have T:items.size=3:=by rw [←Array.length_toList,hi];rfl
    have V:D.size=3:=by rw [←Array.length_toList,B];rfl
    simp [T,V,Bool.decide_and]
   ·rintro rfl
    obtain rfl:o=U:=bw (ho.symm.trans ho');rw [hd] at C;injection C with S;subst S;rw [hi] at B;simp only [List.cons.injEq,Value.int.injEq,Value.ref.injEq] at B;obtain ⟨⟨rfl,_⟩,⟨rfl,_⟩,rfl,_⟩:=B;exact gH (by rw [q.inj q'])
 quiet:=fun {A E s k a Q} hk h=>by
  cases k
  ·refine ua hk fun I tb o items n ho G hd hi=>?_
   exact fZ ho G hd (by rw [hi];intro v Z;simp at Z;rcases Z with rfl|rfl<;>exact gD rfl) _ _ _ _ rfl h
  ·obtain ⟨I,tb,y,⟨o,items,n,ho,G,hd,hi⟩,q⟩:=hk
   refine lB q fun oq iq nq U7 UK UP UT=>?_;exact fZ ho G hd (by
    rw [hi];intro v Z;simp at Z;rcases Z with rfl|rfl|rfl
    ·exact gD rfl
    ·exact gD rfl
    ·exact fZ (n:=6) U7 UK UP fun v Z=>gD (UT.byValue v Z)) _ _ _ _ rfl h
noncomputable def fG (prog:Program) (w:World):HeapKind prog w ru where
 is:=wW
 hash:=ru.hash prog w
 draws:=fun u=>4
 room:=fun A=>A.units+1<cLine
 inj:=fun {h a x y} X O=>by refine t9 X fun I tn tb p=>t9 O fun M WS L p'=>?_;have:=p.inj p';simp only [List.cons.injEq,Value.int.injEq,Value.str.injEq] at this;cases x;cases y;simp_all
 keeps:=fun {h h' k a d o es ep} x ho hd hs=>by refine t9 x fun I tn tb p=>?_;exact ⟨I,tn,tb,p.other ho hd hs⟩
 pyHash:=fun {A E s k a Q} hu hk h=>by obtain ⟨I,tn,tb,o,items,n,ho,G,hd,hi⟩:=hk;exact jn (Jh hu) ho G hd (hi▸.cons hashInt (.cons hashStr (.cons hashInt .nil))) h
 eqBool:=fun {A E s x y a b Q} hu X O h=>by
  have R:A.units<cLine:=by exact Jh hu
  obtain ⟨I,tn,tb,o,items,n,ho,G,hd,hi⟩:=X;obtain ⟨M,WS,L,U,D,n',ho',K,C,B⟩:=O;obtain ⟨xa,xn,xc⟩:=x;obtain ⟨ya,yn,yc⟩:=y;refine gw R ho G hd ho' K C (by rw [hi,B];exact .cons gp (.cons E0 (.cons gp .nil))) (r:=decide _) ?_ ?_ _ _ _ rfl h
  ·have T:items.size=3:=by rw [←Array.length_toList,hi];rfl
   have V:D.size=3:=by rw [←Array.length_toList,B];rfl
   simp [T,V,Bool.decide_and]
  ·rintro rfl
   obtain rfl:o=U:=bw (ho.symm.trans ho');rw [hd] at C;injection C with S;subst S;rw [hi] at B;simp only [List.cons.injEq,Value.int.injEq,Value.str.injEq] at B;exact gH (by simp_all)
 quiet:=fun {A E s k a Q} hk h=>by obtain ⟨I,tn,tb,o,items,n,ho,G,hd,hi⟩:=hk;exact fZ ho G hd (by rw [hi];intro v Z;simp at Z;rcases Z with rfl|rfl|rfl<;>exact gD rfl) _ _ _ _ rfl h
end
section
variable {h g:Heap}
noncomputable abbrev pr:Program:=PySem.Challenge.rw_xm0313_01.row.prog
noncomputable abbrev M0 (w:World):Model:=model pr w
noncomputable abbrev Ar (dp un:Nat) (gd:Option (List Code)) (fr:List Env):Around:={handled:=none,depth:=dp,frames:=some fr,guards:=gd,units:=un}
def S9 (g:Heap) (L:Addr) (h:Heap) (p:Addr×Obj):Prop:=h.get? p.1=some p.2∧p.1≠L∧g.get? p.1=none
theorem o5 {L:Addr} {p:Addr×Obj} {l:zA} (a:S9 g L h p) (N:News g L h l):News g L h (p::l):=fun q B=>by
 rcases dP B with rfl|B
 ·exact a
 ·exact N q B
theorem sj {L:Addr} {l k:zA} (a:News g L h l) (N:News g L h k):News g L h (l++k):=fun q B=>(jx B).elim (a q) (N q)
def aX (h C:Heap):Prop:=∀x o,(o.cls= .type "tuple" ∧∃vs n,o.data= .seq vs n)→h.get? x=some o→C.get? x=some o
theorem aX.trans {a b c:Heap} (x:aX a b) (y:aX b c):aX a c:=fun t o A e=>y t o A (x t o A e)
theorem qY {x:Addr} {vs:zV} (k:aX h g) (t:fu h x vs):fu g x vs:=by refine lB t fun o i n ho A hd hi=>?_;exact ⟨o,i,n,k x o ⟨A,i,n,hd⟩ ho,A,hd,hi⟩
theorem bD {x:Addr} {vs:zV} (t:fu h x vs):IsTup h x vs.toArray:=by
 refine lB t fun o i n ho A hd hi=>⟨o,ho,A,n,?_⟩
 rw [hd,←hi]
end
section
variable {w:World} {A:Around} {E:zQ} {s:Shared} {g:Heap} {L:Addr} {m:Str→Option Value} {news:zA} {KK:Type} [DecidableEq KK] {knd:HeapKind pr w KK}
def DE (knd:HeapKind pr w KK) (o:Obj) (xs:List (KK×Addr×Value)):Prop:=o.ExactDict∧(∃es G,o.data= .dict es G∧es.toList=xs.map (entryOfKey knd))∧(xs.map (·.1)).Nodup
theorem DE.v_ {M:Type} [DecidableEq M] {D:KeyKind pr w M} {o:Obj} (h:o.IsDictOf D []):DE knd o []:=by refine zg h fun es G a b Z c Z=>?_;exact eo a ⟨es,G,b,by cases R:es.toList with|nil=>rfl|cons x y=>(rw [R] at c;cases c)⟩ .nil
theorem DE.at {h:Heap} {d:Addr} {o:Obj} {xs:List (KK×Addr×Value)} (x:DE knd o xs) (e:h.get? d=some o) (hk:∀x∈xs,knd.is h x.1 x.2.1):h.DictOfH knd d xs:=
 ⟨o,x.2.1.imp fun es h=>h.imp fun G h=>⟨e,x.1,h.1,h.2,hk,x.2.2⟩⟩
end
section
variable {prog:Program} {w:World} {A:Around} {E:zQ} {s:Shared} {K:Frag} {x C dx L:Addr} {h₀:Heap} {m:Str→Option Value} {news:zA} {ox:Obj} {es:List DictEntry} {n:Nat} {name:Str} {v:Value}
def yw (od:Obj) (name:Str) (v:Value):Prop:=od.cls= .type "dict" ∧lookIn name od=some (some v)
theorem xw {expr:Bool} {Q:zQ} {attr:Option Value} {od:Obj} (F:Fr h₀ L s.heap m) (B:K.In h₀) (N:News h₀ L s.heap news) (I:(x,instObj C dx)∈news) (H:(dx,od)∈news) (J:yw od name v) (hg:plainGet K C name=true) (T:hasDictIn K C=true)
  (U:findIn K (.ref C) name=some attr) (S:noGet K attr=true) (O:handedIn v=true) (h:Q v {s with toks:=s.toks+1}):
  wpAny (model prog w) A (getAttr (.ref x) name expr) Q E s:=
 get_value (B.keeps F.keep) (InstAt.of_news N I H) (plainGet_of hg).1 (findObj_own T U S J.2) O h
def yE (od:Obj) (name:Str):Prop:=od.cls= .type "dict" ∧lookIn name od=some none
theorem FW {pl:Sem Bool} {Q:Value×List Value→Shared→Prop} {f:Addr} {od:Obj} (F:Fr h₀ L s.heap m) (B:K.In h₀) (N:News h₀ L s.heap news) (I:(x,instObj C dx)∈news) (H:(dx,od)∈news) (J:yE od name) (hg:plainGet K C name=true)
  (hf:findIn K (.ref C) name=some (some (.ref f))) (P:isFn K (.ref f)=true) (h:Q (.ref f,[.ref x]) s):wpAny (model prog w) A (getMethod (.ref x) name pl) Q E s:=
 method_fn (B.keeps F.keep) (InstAt.of_news N I H) (plainGet_of hg).1 (plainGet_of hg).2 hf (beq_iff_eq.mp P) (by show (lookIn name od).map _=_;rw [J.2];rfl) h
end
def Ew (e:DictEntry) (p:Str×Value):Prop:=(∃t,e.key= .str p.1 t)∧e.val=p.2
inductive jz:List DictEntry→List (Str×Value)→Prop
 |nil:jz [] []
 |cons {e p es l}:Ew e p→jz es l→jz (e::es) (p::l)
theorem jz.length_eq:∀{es:List DictEntry} {l:List (Str×Value)},jz es l→es.length=l.length
 |_,_,h=>by
  induction h with
  |nil=>rfl
  |cons _ _ ih=>exact congrArg (·+1) ih
def rq (od:Obj) (l:List (Str×Value)) (b:Nat):Prop:=(∃es n,od=dictOf es n∧jz es l)∧l.length≤b
noncomputable def sG (name:Str) (v:Value):List (Str×Value)→List (Str×Value)
 |[]=>[(name,v)]
 |p::r=>if p.1==name then (p.1,v)::r else p::sG name v r
noncomputable def nX (name:Str) (l:List (Str×Value)):Option Value:=(l.find? (·.1==name)).map (·.2)
theorem rq.nil {n:Nat}:rq (dictOf [] n) [] 0:=⟨⟨_,_,rfl,.nil⟩,jd _⟩
theorem rq.cls {od:Obj} {l:List (Str×Value)} {b:Nat} (D:rq od l b):od.cls= .type "dict" :=by obtain ⟨⟨es,n,rfl,_⟩,_⟩:=D;rfl
theorem oS {e:DictEntry} {p:Str×Value} (h:Ew e p) (name:Str):e.key.isStr name=(p.1==name):=by obtain ⟨⟨t,G⟩,_⟩:=h;rw [G];rfl
theorem CR {e:DictEntry} {p:Str×Value} (h:Ew e p):e.refKey=false:=by obtain ⟨⟨t,G⟩,_⟩:=h;unfold DictEntry.refKey;rw [G]
theorem kr {name:Str} {es:List DictEntry} {l:List (Str×Value)} (h:jz es l):getL name es=some (nX name l):=by
 unfold getL nX;have hr:es.any (·.refKey)=false:=by
  induction h with
  |nil=>rfl
  |cons a _ ih=>simp [CR a,ih]
 rw [hr];clear hr;induction h with
 |nil=>rfl
 | @cons e p _ _ a _ ih=>
  simp only [List.find?_cons,oS a];cases hb:p.1==name with
  |true=>simp [a.2]
  |false=>exact ih
theorem o_ {name:Str} {v:Value} {p:Str×Value} {r:List (Str×Value)}:sG name v (p::r)=if p.1==name then (p.1,v)::r else p::sG name v r:=rfl
theorem o6 {name:Str} {hsh:Int} {t:Tok} {v:Value} {es:List DictEntry} {l:List (Str×Value)} (h:jz es l):jz (putL name hsh (.str name t) v es) (sG name v l):=by
 induction h with
 |nil=>exact .cons ⟨⟨t,rfl⟩,rfl⟩ .nil
 | @cons e p _ _ a r ih=>
  simp only [putL,o_,oS a];cases hb:p.1==name with
  |true=>exact .cons ⟨a.1,rfl⟩ r
  |false=>exact .cons a ih
theorem nJ {name:Str} {v:Value}:∀{l:List (Str×Value)},(sG name v l).length≤l.length+1
 |[]=>jd _
 |p::r=>by
  rw [o_];cases p.1==name with
  |true=>exact Nat.le_succ _
  |false=>exact Nat.succ_le_succ nJ
theorem rq.norm {od:Obj} {l O:List (Str×Value)} {b:Nat} (D:rq od l b) (e:l=O):rq od O O.length:=⟨e▸D.1,jd _⟩
theorem rq.DL {od:Obj} {l:List (Str×Value)} {b:Nat} (D:rq od l b) {name:Str} {v:Value} (e:nX name l=some v):yw od name v:=by obtain ⟨⟨es,n,rfl,h⟩,_⟩:=D;exact ⟨rfl,by rw [lookIn_dict,kr h,e]⟩
theorem rq.no {od:Obj} {l:List (Str×Value)} {b:Nat} (D:rq od l b) {name:Str} (e:nX name l=none):yE od name:=by obtain ⟨⟨es,n,rfl,h⟩,_⟩:=D;exact ⟨rfl,by rw [lookIn_dict,kr h,e]⟩
section
variable {prog:Program} {w:World} {A:Around} {E:zQ} {s:Shared} {K:Frag} {x C dx L:Addr} {h₀:Heap} {m:Str→Option Value} {news:zA} {name:Str} {v:Value} {od:Obj} {l:List (Str×Value)} {b:Nat}
theorem xX {Q:Unit→Shared→Prop} {B:Obj→List (Addr×Obj)} (F:Fr h₀ L s.heap m) (J:K.In h₀) (N:News h₀ L s.heap news) (S:(x,instObj C dx)∈news) (R:(dx,od)∈news) (D:rq od l b)
  (hs:findIn K (.ref C) "__setattr__" =some (some (.builtin "object.__setattr__"))) (T:plainOver K C=true) (G:takerIn K C name=some none) (V:hasDictIn K C=true) (hz:Nat.ble b 900=true)
  (U:∀od',Upd dx od od' news (B od'))
  (h:∀od' H M,od'.cls= .type "dict" →rq od' (sG name v l) (b+1)→Fr h₀ L H m→News h₀ L H (B od')→Q () (sh s H M)):
  wpAny (model prog w) A (setAttr (.ref x) name v) Q E s:=by
 have I:=InstAt.of_news N S R;obtain ⟨⟨es,n,rfl,he⟩,hb⟩:=D;have hl:es.length=l.length:=he.length_eq;have P:=pG hz;refine set_dict F J N I rfl hs T G V (by rw [kr he];rfl) rfl (U _) ?_ fun H c Z=>h _ H _ rfl ⟨⟨_,_,rfl,o6 he⟩,fQ nJ (Nat.succ_le_succ hb)⟩ c Z;have Y:=(o6 (name:=name) (hsh:=PyData.keyHash w.params name) (t:=s.toks+1) (v:=v) he).length_eq;rw [Y];exact fQ (nJ (name:=name) (v:=v) (l:=l)) (Nat.succ_le_succ (fQ hb (fQ P aD)))
end
section
set_option smartUnfolding false
variable {α β:Type}
section
inductive DV where
 |none
 |bool (b:Bool)
 |int (i:Int)
 |str (s:Str)
 |ai (l:List DV)
 |aj (r k:Nat)
 |fn (a:Addr)
noncomputable def DV.ctorIdx (x:DV):Nat:= @DV.casesOn (fun _a=>Nat) x 0 (fun _a=>1) (fun _a=>2) (fun _a=>3) (fun _a=>4) (fun _a _a=>5) (fun _a=>6)
set_option genCtorIdx true in
inductive KD where
 |z|s|r|n
inductive CB where
 |inst (C:Addr) (as:List (Nat×DV))
 |list (l:List DV)
 |dict (kd:KD) (l:List (DV×DV))
 |var (o:Option DV)
noncomputable def CB.ctorIdx (x:CB):Nat:= @CB.casesOn (fun _a=>Nat) x (fun _a _a=>0) (fun _a=>1) (fun _a _a=>2) (fun _a=>3)
structure Cell where
 cz:Nat
 b:CB
inductive TC where
 |nil
 |node (v:Option Cell) (l r:TC)
 |aq (i:Nat) (c:Cell) (t:TC)
noncomputable def TC.ctorIdx (x:TC):Nat:= @TC.casesOn (fun _a=>Nat) x 0 (fun _a _a _a=>1) (fun _a _a _a=>2)
structure Rg where
 n:Nat
 t:TC
abbrev ah:=List Rg
set_option genCtorIdx true in
inductive yl where
 |add|sub|mul|mod|fdiv|band|bor
set_option genCtorIdx true in
inductive wV where
 |eq|ne|lt|le|gt|ge|is|vN|yq|eU
set_option genCtorIdx true in
inductive BM where
 |append|extend|get|split|count
inductive RA where
 |av|bX (R:Nat)|sel (x:Nat)
noncomputable def RA.ctorIdx (x:RA):Nat:= @RA.casesOn (fun _a=>Nat) x 0 (fun _a=>1) (fun _a=>2)
inductive ME where
 |l (x:Nat)
 |lc (x:Nat)
 |c (d:DV)
 |g (d:DV)
 |bX (e:ME) (a:Nat)
 |sub (e i:ME)
 |n_ (e b:ME)
 |qT (e b:ME)
 |bin (op:yl) (l r:ME)
 |neg (e:ME)
 |not (e:ME)
 |cmp (op:wV) (l r:ME)
 |and (l:List ME)
 |or (l:List ME)
 |ite (c a b:ME)
 |ai (l:List ME)
 |lst (l:List ME)
 |dct (l:List (ME×ME))
 |call (z:Option Bool) (B:RA) (f:Addr) (as:List ME)
 |kU (z:Option Bool) (B:RA) (f:Addr) (as:List ME)
 |new (C:Addr) (as:List ME)
 |eL (o:ME) (m:Nat) (as:List ME)
 |bm (o:ME) (m:BM) (as:List ME)
 |len (e:ME)
 |tupleOf (e:ME)
 |comp (xs:List Nat) (elt:ME) (ig:Bool) (it:ME) (cond:Option ME) (fv:List Nat)
 |bad
noncomputable def ME.ctorIdx (x:ME):Nat:= @ME.casesOn (fun _a=>Nat) x (fun _a=>0) (fun _a=>1) (fun _a=>2) (fun _a=>3) (fun _a _a=>4) (fun _a _a=>5) (fun _a _a=>6) (fun _a _a=>7) (fun _a _a _a=>8) (fun _a=>9) (fun _a=>10) (fun _a _a _a=>11) (fun _a=>12) (fun _a=>13) (fun _a _a _a=>14) (fun _a=>15) (fun _a=>16) (fun _a=>17) (fun _a _a _a _a=>18) (fun _a _a _a _a=>19) (fun _a _a=>20) (fun _a _a _a=>21) (fun _a _a _a=>22) (fun _a=>23) (fun _a=>24) (fun _a _a _a _a _a _a=>25) 26
inductive MS where
 |b7 (x:Nat) (e:ME)
 |mJ (x:Nat) (e:ME)
 |kc (x:Nat) (e:ME)
 |a_ (o:ME) (a:Nat) (e:ME)
 |cS (o i e:ME)
 |wY (xs:List Nat) (e:ME)
 |aug (x:Nat) (op:yl) (e:ME)
 |w7 (o i:ME) (op:yl) (e:ME)
 |ex (e:ME)
 |iff (c:ME) (a b:List MS)
 |cj (x:Nat) (it:ME) (body:List MS)
 |forL (x:Nat) (it:ME) (body:List MS)
 |yv (c:ME) (body:List MS)
 |ret (e:Option ME)
 |yg (body D:List MS)
 |cu (as:List ME)
 |bad
noncomputable def MS.ctorIdx (x:MS):Nat:= @MS.casesOn (fun _a=>Nat) x (fun _a _a=>0) (fun _a _a=>1) (fun _a _a=>2) (fun _a _a _a=>3) (fun _a _a _a=>4) (fun _a _a=>5) (fun _a _a _a=>6) (fun _a _a _a _a=>7) (fun _a=>8) (fun _a _a _a=>9) (fun _a _a _a=>10) (fun _a _a _a=>11) (fun _a _a=>12) (fun _a=>13) (fun _a _a=>14) (fun _a=>15) 16
structure MF where
 ps:List Nat
 cv:List Nat
 body:List MS
inductive Fl where
 |next
 |ret (d:DV)
noncomputable def Fl.ctorIdx (x:Fl):Nat:= @Fl.casesOn (fun _a=>Nat) x 0 (fun _a=>1)
abbrev Lc:=List (Nat×DV)
inductive Tk where
 |e (m:ME)
 |es (l:List ME)
 |kv (l:List (ME×ME))
 |b (m:ME)
 |ss (l:List MS)
 |cj (x:Nat) (gd:zO) (ds:List DV) (body:List MS)
 |yv (c:ME) (body:List MS)
 |cp (xs:List Nat) (gd:zO) (ds:List DV) (elt:ME) (cond:Option ME)
 |call (f:Addr) (as:List DV)
noncomputable def Tk.ctorIdx (x:Tk):Nat:= @Tk.casesOn (fun _a=>Nat) x (fun _a=>0) (fun _a=>1) (fun _a=>2) (fun _a=>3) (fun _a=>4) (fun _a _a _a _a=>5) (fun _a _a=>6) (fun _a _a _a _a _a=>7) (fun _a _a=>8)
inductive Rs where
 |v (d:DV)
 |vs (l:List DV)
 |kv (l:List (DV×DV))
 |b (b:Bool)
 |f (fl:Fl)
 |x
 |y
 |z (d:DV)
noncomputable def Rs.ctorIdx (x:Rs):Nat:= @Rs.casesOn (fun _a=>Nat) x (fun _a=>0) (fun _a=>1) (fun _a=>2) (fun _a=>3) (fun _a=>4) 5 6 (fun _a=>7)
inductive RR where
 |no
 |ok (r:Rs) (σ:ah) (ls:Lc)
 |br (o:Option Bool) (t f:RR)
 |op (o:Option DV) (k:DV→RR)
 |oc (o:Option TC) (i:Nat) (k:Cell→RR)
noncomputable def RR.ctorIdx (x:RR):Nat:= @RR.casesOn (fun _a=>Nat) x 0 (fun _a _a _a=>1) (fun _a _a _a=>2) (fun _a _a=>3) (fun _a _a _a=>4)
noncomputable def RR.bind (o:RR) (K:Rs→ah→Lc→RR):RR:=RR.rec (motive:=fun Z=>RR) .no K (fun o Z Z t f=> .br o t f) (fun o Z k=> .op o k) (fun o i Z k=> .oc o i k) o
noncomputable def aL:List α→Nat→Option α
 |[],_=>none
 |a::_,0=>some a
 |_::l,n+1=>aL l n
noncomputable def aF:List (Nat×α)→Nat→Option α
 |[],_=>none
 |p::l,x=>match Nat.beq p.1 x with
  |true=>some p.2
  |false=>aF l x
noncomputable def c_:List (Nat×α)→Nat→α→(List (Nat×α)→β)→β
 |[],x,v,k=>k [(x,v)]
 |p::l,x,v,k=>match Nat.beq p.1 x with
  |true=>k ((p.1,v)::l)
  |false=>c_ l x v fun l=>k (p::l)
noncomputable def TC.get:TC→Nat→Option Cell
 | .nil,_=>none
 | .node v l r,i=>match Nat.beq i 0 with
  |true=>v
  |false=>match Nat.beq (i%2) 1 with
   |true=>l.get (i/2)
   |false=>r.get (i/2 -1)
 | .aq i c t,j=>match Nat.beq j i with
  |true=>some c
  |false=>t.get j
noncomputable def ao (J:Rs→ah→Lc→Prop) (o:RR):Prop:=
 RR.rec (motive:=fun Z=>Prop) False J (fun o Z Z t f=>match o with|some true=>t|some false=>f|none=>False) (fun o Z k=>match o with|some d=>k d|none=>False) (fun o i Z k=>match o with|some t=>(match t.get i with|some d=>k d|none=>False)|none=>False) o
noncomputable def TC.D5:TC→Bool
 | .aq _ _ _=>true
 |_=>false
noncomputable def TC.fv:TC→Option Cell
 | .node v _ _=>v
 |_=>none
noncomputable def TC.fl:TC→TC
 | .node _ l _=>l
 |_=> .nil
noncomputable def TC.fr:TC→TC
 | .node _ _ r=>r
 |_=> .nil
noncomputable def TC.put:Nat→TC→Nat→Cell→(TC→α)→α
 |0,t,_,_,k=>k t
 |f+1,t,i,c,k=>match t.D5 with
  |true=>k (.aq i c t)
  |false=>match Nat.beq i 0 with
   |true=>k (.node (some c) t.fl t.fr)
   |false=>match Nat.beq (i%2) 1 with
    |true=>TC.put f t.fl (i/2) c fun l=>k (.node t.fv l t.fr)
    |false=>TC.put f t.fr (i/2 -1) c fun r=>k (.node t.fv t.fl r)
noncomputable def TC.putL:Nat→TC→Nat→Cell→TC
 |0,t,_,_=>t
 |f+1,t,i,c=>match t.D5 with
  |true=> .aq i c t
  |false=>match Nat.beq i 0 with
   |true=> .node (some c) t.fl t.fr
   |false=>match Nat.beq (i%2) 1 with
    |true=> .node t.fv (TC.putL f t.fl (i/2) c) t.fr
    |false=> .node t.fv t.fl (TC.putL f t.fr (i/2 -1) c)
noncomputable def aN (σ:ah) (r k:Nat):Option Cell:=match aL σ r with
 |some g=>g.t.get k
 |none=>none
noncomputable def ja (σ:ah) (r:Nat):Option TC:=match aL σ r with
 |some g=>some g.t
 |none=>none
noncomputable def kZ (n:Nat) (k:Nat→α):α:=match n with
 |0=>k 0
 |m+1=>k (m+1)
noncomputable def Ai:List α→Nat→((α→β)→α→β)→(List α→β)→β
 |[],_,_,k=>k []
 |a::l,0,f,k=>f (fun a=>k (a::l)) a
 |a::l,n+1,f,k=>Ai l n f fun l=>k (a::l)
noncomputable def xK {E:Type} (f:α→(β→E)→E):List α→(List β→E)→E
 |[],k=>k []
 |a::l,k=>f a fun b=>xK f l fun l=>k (b::l)
noncomputable def EB:List α→List α→(List α→β)→β
 |[],r,k=>k r
 |a::l,r,k=>EB l r fun l=>k (a::l)
noncomputable def CM:List Nat→List Nat→Bool
 |[],[]=>true
 |a::l,b::k=>match Nat.beq a b with
  |true=>CM l k
  |false=>false
 |_,_=>false
noncomputable def kL (a b:Str):Bool:=CM a.cps.toList b.cps.toList
noncomputable def ck:Int→Int→Bool
 | .ofNat a,.ofNat b=>Nat.beq a b
 | .negSucc a,.negSucc b=>Nat.beq a b
 |_,_=>false
noncomputable def RV:Int→Int→Bool
 | .ofNat a,.ofNat b=>Nat.blt a b
 | .ofNat _,.negSucc _=>false
 | .negSucc _,.ofNat _=>true
 | .negSucc a,.negSucc b=>Nat.blt b a
noncomputable def gk (q:DV→DV→Option Bool):List DV→List DV→Option Bool
 |[],[]=>some true
 |a::l,b::k=>match q a b with
  |some x=>match gk q l k with
   |some y=>some (x&&y)
   |none=>none
  |none=>none
 |[],_::_=>some false
 |_::_,[]=>some false
noncomputable def h_:Nat→DV→DV→Option Bool
 |0,_,_=>none
 |f+1,a,b=>match a with
  | .none=>match b with
   | .none=>some true
   | .int _=>some false
   | .str _=>some false
   | .ai _=>some false
   |_=>none
  | .int a=>match b with
   | .none=>some false
   | .int b=>some (ck a b)
   | .str _=>some false
   | .ai _=>some false
   |_=>none
  | .str a=>match b with
   | .none=>some false
   | .int _=>some false
   | .str b=>some (kL a b)
   | .ai _=>some false
   |_=>none
  | .ai a=>match b with
   | .none=>some false
   | .int _=>some false
   | .str _=>some false
   | .ai b=>gk (h_ f) a b
   |_=>none
  |_=>none
noncomputable abbrev i_:DV→DV→Option Bool:=h_ 8
noncomputable def iX:List DV→DV→Option Bool
 |[],_=>some false
 |y::l,x=>match i_ y x with
  |some a=>match iX l x with
   |some b=>some (a||b)
   |none=>none
  |none=>none
noncomputable def small (n:Nat):Bool:=Nat.ble n 5000
noncomputable def allI:List DV→Bool
 |[]=>true
 | .int _::l=>allI l
 |_::_=>false
noncomputable def isIn:DV→Bool
 | .int _=>true
 |_=>false
noncomputable def Nm:DV→Bool
 | .str _=>true
 |_=>false
noncomputable def FO (k:List DV):KD:=match allI k with
 |true=> .r
 |false=> .z
noncomputable def bh (d:DV):KD:=match d with
 | .str _=> .s
 | .ai l=>match l with
  |[]=> .z
  |a::l=>match a with
   | .int _=>match l with
    |[]=> .z
    |b::l=>match b with
     | .int _=>match l with
      |[]=> .r
      |e::l=>match l with
       |[]=>match e with
        | .ai k=>FO k
        |_=> .z
       |_::_=> .z
     | .str _=>match l with
      |[]=> .z
      |e::l=>match l with
       |[]=>match e with
        | .int _=> .n
        |_=> .z
       |_::_=> .z
     |_=> .z
   |_=> .z
 |_=> .z
noncomputable def KD.g9 (a b:KD):Bool:=match a with
 | .z=>false
 | .s=>match b with| .s=>true|_=>false
 | .r=>match b with| .r=>true|_=>false
 | .n=>match b with| .n=>true|_=>false
noncomputable def yZ:List DV→DV→Option Nat
 |[],_=>some 0
 |y::l,x=>match KD.g9 (bh y) .r with
  |true=>match i_ y x with
   |some a=>match yZ l x with
    |some b=>some (match a with|true=>b+1|false=>b)
    |none=>none
   |none=>none
  |false=>none
noncomputable def aY:List (DV×DV)→DV→Option (Option DV)
 |[],_=>some none
 |p::l,x=>match i_ p.1 x with
  |some b=>match b with
   |true=>some (some p.2)
   |false=>aY l x
  |none=>none
noncomputable def cW (l:List (DV×DV)) (x:DV):Option DV:=match aY l x with
 |some o=>o
 |none=>none
noncomputable def b8 (l:List (DV×DV)) (x z:DV):Option DV:=match aY l x with
 |some o=>match o with
  |some d=>some d
  |none=>some z
 |none=>none
noncomputable def xg:List (DV×DV)→DV→DV→(List (DV×DV)→β)→β
 |[],x,v,k=>k [(x,v)]
 |p::l,x,v,k=>match i_ p.1 x with
  |some b=>match b with
   |true=>k ((p.1,v)::l)
   |false=>xg l x v fun l=>k (p::l)
  |none=>xg l x v fun l=>k (p::l)
noncomputable def aM:List (DV×DV)→DV→DV→List (DV×DV)
 |[],x,v=>[(x,v)]
 |p::l,x,v=>match i_ p.1 x with
  |some b=>match b with
   |true=>(p.1,v)::l
   |false=>p::aM l x v
  |none=>p::aM l x v
noncomputable def Av:Nat→Nat→Int
 |0,a=> .ofNat a
 |b+1,a=>match a with
  |0=> .negSucc b
  |a+1=>Av b a
noncomputable def eF (a b:Int):Int:=match a with
 | .ofNat a=>match b with
  | .ofNat b=>Av b a
  | .negSucc c=> .ofNat a - .negSucc c
 | .negSucc c=> .negSucc c -b
noncomputable def binI (op:yl) (a b:Int):Option Int:=match op with
 | .add=>some (a+b)
 | .sub=>some (eF a b)
 | .mul=>match a with
  | .ofNat a=>match b with
   | .ofNat b=>match Nat.blt a 100000 with
    |true=>match Nat.blt b 100000 with
     |true=>some (.ofNat (a*b))
     |false=>none
    |false=>none
   | .negSucc _=>none
  | .negSucc _=>none
 | .mod=>match b with
  | .ofNat b=>match b with
   |0=>none
   |b+1=>some (a%((b+1:Nat):Int))
  | .negSucc _=>none
 | .fdiv=>match b with
  | .ofNat b=>match b with
   |0=>none
   |b+1=>match Nat.blt b 1000000 with
    |true=>some (a/((b+1:Nat):Int))
    |false=>none
  | .negSucc _=>none
 | .band=>match a with
  | .ofNat a=>match b with
   | .ofNat b=>some (.ofNat (a&&&b))
   | .negSucc _=>none
  | .negSucc _=>none
 | .bor=>match a with
  | .ofNat a=>match b with
   | .ofNat b=>some (.ofNat (a|||b))
   | .negSucc _=>none
  | .negSucc _=>none
noncomputable def repl:Nat→List α→List α
 |0,_=>[]
 |n+1,l=>l++repl n l
structure Pg where
 fn:List (Nat×MF)
 init:List (Nat×Nat)
 eL:List (Nat×List (Nat×Nat))
 tab:List (Nat×List (Nat×Int))
 DL:List (Nat×List Nat)
noncomputable def Ah:List Nat→Nat→Bool
 |[],_=>false
 |a::l,x=>match Nat.beq a x with
  |true=>true
  |false=>Ah l x
noncomputable def bo (o:Option α) (k:α→RR):RR:=match o with
 |some a=>k a
 |none=> .no
section
variable (P:Pg) (z:Bool) (av:Nat)
noncomputable def ug (n:Nat) (k:Nat→α):α:=match z with
 |true=>kZ n k
 |false=>k n
noncomputable def rP (i:Int) (k:Int→α):α:=match z with
 |true=>match i with
  | .ofNat n=>kZ n fun n=>k (.ofNat n)
  | .negSucc n=>kZ n fun n=>k (.negSucc n)
 |false=>k i
noncomputable def Ci (l:List α) (k:List α→β):β:=match z with
 |true=>xK (fun a k=>k a) l k
 |false=>k l
noncomputable def rR (l:List Nat) (k:List Nat→β):β:=xK kZ l k
noncomputable def app (l r:List α) (k:List α→β):β:=match z with
 |true=>EB l r k
 |false=>k (l++r)
noncomputable def oJ (l:List (DV×DV)) (x v:DV) (k:List (DV×DV)→β):β:=match z with
 |true=>xg l x v k
 |false=>k (aM l x v)
noncomputable def D8 (l:List α) (i:Nat) (v:α) (k:List α→β):β:=match z with
 |true=>Ai l i (fun q Z=>q v) k
 |false=>k (l.set i v)
noncomputable def Gk (f:Nat) (t:TC) (i:Nat) (c:Cell) (k:TC→β):β:=match z with
 |true=>TC.put f t i c k
 |false=>k (.aq i c t)
noncomputable def setC (σ:ah) (r k v:Nat) (b:CB) (q:ah→RR):RR:=
 ug z (v+1) fun v=>Ai σ r (fun q g=>Gk z (k+1) g.t k ⟨v,b⟩ fun t=>q ⟨g.n,t⟩) q
noncomputable def cT (σ:ah) (b:CB) (q:DV→ah→RR):RR:=match aL σ av with
 |some g=>ug z g.n fun n=>Ai σ av (fun q g=>Gk z (n+1) g.t n ⟨0,b⟩ fun t=>ug z (n+1) fun n=>q ⟨n,t⟩) fun σ=>q (.aj av n) σ
 |none=> .no
noncomputable def pU (o:Option Bool) (t f:RR):RR:=match z with
 |true=>match o with
  |some b=>match b with
   |true=>t
   |false=>f
  |none=> .no
 |false=> .br o t f
noncomputable def Ax (o:Option DV) (k:DV→RR):RR:=match z with
 |true=>match o with
  |some d=>k d
  |none=> .no
 |false=> .op o k
noncomputable def gG (n:Nat) (t:RR):RR:=pU z (some (small n)) t .no
noncomputable def dU (σ:ah) (r k:Nat) (q:Cell→RR):RR:=match z with
 |true=>match aN σ r k with
  |some c=>q c
  |none=> .no
 |false=> .oc (ja σ r) k q
noncomputable def wc (C a:Nat):Bool:=match aF P.DL C with
 |some l=>Ah l a
 |none=>false
noncomputable def jt (x y:Str):List Str:=match (decide (x.length<y.length)||decide (Builtin.Str.strKind x<Builtin.Str.strKind y))||(Builtin.Str.occurrences x y 0 x.length (x.length+1)).isEmpty with
 |true=>[x]
 |false=>Builtin.Str.partsBetween x (Builtin.Str.occurrences x y 0 x.length (x.length+1)) y.length
noncomputable def BK (σ:ah) (op:yl) (x y:DV) (q:DV→ah→RR):RR:=match x with
 | .int a=>match y with
  | .int b=>match binI op a b with
   |some i=>rP z i fun i=>q (.int i) σ
   |none=> .no
  |_=> .no
 | .aj r k=>match op with
  | .mul=>match y with
   | .int n=>match n with
    | .ofNat n=>dU z σ r k fun c=>match c.b with
     | .list l=>gG z n (gG z (n*l.length) (Ci z (repl n l) fun l=>cT z av σ (.list l) q))
     |_=> .no
    | .negSucc _=> .no
   |_=> .no
  |_=> .no
 | .ai l=>match op with
  | .mul=>match y with
   | .int n=>match ck n 0 with
    |true=>match l with
     |_::_=>q (.ai []) σ
     |[]=> .no
    |false=> .no
   |_=> .no
  | .add=> .no
  |_=> .no
 |_=> .no
noncomputable def iL (σ:ah) (d:DV) (t f:RR):RR:=match d with
 | .bool b=>pU z (some b) t f
 | .none=>f
 | .int i=>pU z (some (!ck i 0)) t f
 | .str s=>gG z s.cps.toList.length (match s.cps.toList with|[]=>f|_::_=>t)
 | .ai l=>gG z l.length (match l with|[]=>f|_::_=>t)
 | .aj r k=>dU z σ r k fun c=>match c.b with
  | .list l=>gG z l.length (pU z (some (Nat.blt 0 l.length)) t f)
  |_=> .no
 | .fn _=> .no
noncomputable def lE (q:DV→DV→Bool):List DV→List DV→Bool
 |[],[]=>true
 |a::l,b::k=>match q a b with
  |true=>lE q l k
  |false=>false
 |_,_=>false
noncomputable def i7 (σ:ah) (y:DV):Option (List DV):=match y with
 | .ai l=>some l
 | .aj r k=>match aN σ r k with
  |some c=>match c.b with
   | .list l=>some l
   |_=>none
  |none=>none
 |_=>none
noncomputable def uc (σ:ah) (q:DV→DV→Bool) (a b:DV):Bool:=match a with
 | .none=>match b with
  | .none=>true
  |_=>false
 | .int a=>match b with
  | .int b=>ck a b
  |_=>false
 | .str a=>match b with
  | .str b=>kL a b
  |_=>false
 | .ai a=>match b with
  | .ai b=>lE q a b
  |_=>false
 | .aj r k=>match b with
  | .aj r' k'=>match i7 σ (.aj r k) with
   |some l=>match i7 σ (.aj r' k') with
    |some F=>lE q l F
    |none=>false
   |none=>false
  |_=>false
 |_=>false
noncomputable def AR (a b:DV):Bool:=match a with
 | .aj r k=>match b with
  | .aj r' k'=>Nat.beq r r'&&Nat.beq k k'
  |_=>false
 |_=>false
noncomputable def eqT (σ:ah):Nat→DV→DV→Bool
 |0,_,_=>false
 |f+1,a,b=>AR a b||uc σ (eqT σ f) a b
noncomputable def nZ (σ:ah) (kd:KD) (y:DV):Option (List (DV×DV)):=match y with
 | .aj r k=>match aN σ r k with
  |some c=>match c.b with
   | .dict j4 l=>match KD.g9 j4 kd with
    |true=>some l
    |false=>none
   |_=>none
  |none=>none
 |_=>none
noncomputable def kq (q:DV→DV→Bool) (m:List (DV×DV)):List (DV×DV)→Bool
 |[]=>true
 |p::l=>match cW m p.1 with
  |some d=>match q p.2 d with
   |true=>kq q m l
   |false=>false
  |none=>false
noncomputable def iD (σ:ah) (kd:KD) (q:DV→DV→Bool) (a b:DV):Bool:=match nZ σ kd a with
 |some l=>match nZ σ kd b with
  |some m=>Nat.beq l.length m.length&&kq q m l
  |none=>false
 |none=>false
noncomputable def EZ (σ:ah) (x y:DV):Option Bool:=match x with
 | .int a=>match y with
  | .int b=>some (ck a b)
  |_=>none
 | .str a=>match y with
  | .str b=>some (kL a b)
  |_=>none
 |x=>match uc σ (eqT σ 8) x y||iD σ .s (fun a b=>eqT σ 8 a b||iD σ .n (eqT σ 8) a b) x y with
  |true=>some true
  |false=>none
noncomputable def JR (x y:DV):Option Bool:=match x with
 | .int a=>match y with
  | .int b=>some (RV a b)
  |_=>none
 |_=>none
noncomputable def zW (x y:DV):Option Bool:=match y with
 | .none=>match x with
  | .none=>some true
  | .aj _ _=>some false
  |_=>none
 |_=>none
noncomputable def lI (o:Option Bool):Option Bool:=match o with
 |some b=>some (!b)
 |none=>none
noncomputable def m_ (σ:ah) (x y:DV):Option Bool:=match i7 σ y with
 |some l=>iX l x
 |none=>none
noncomputable def n7 (x y:DV):Option Bool:=match x with
 | .int i=>match i with
  | .ofNat i=>match y with
   | .fn a=>match aF P.tab a with
    |some t=>some (match aF t i with|some _=>true|none=>false)
    |none=>none
   |_=>none
  |_=>none
 | .str s=>match y with
  | .str t=>some (!(Builtin.Str.occurrences t s 0 t.length 1).isEmpty)
  |_=>none
 |_=>none
noncomputable def vX (σ:ah) (x y:DV):Option Bool:=match y with
 | .aj r k=>match aN σ r k with
  |some c=>match c.b with
   | .dict kd l=>match kd with
    | .n=>match KD.g9 (bh x) .n with
     |true=>match aY l x with
      |some o=>match o with
       |some _=>some false
       |none=>some true
      |none=>none
     |false=>none
    |_=>none
   |_=>none
  |none=>none
 |_=>none
noncomputable def Ef (a b:Option Bool):Option Bool:=match a with
 |some x=>some x
 |none=>b
noncomputable def fy (σ:ah) (op:wV) (x y:DV):Option Bool:=match op with
 | .eq=>EZ σ x y
 | .ne=>lI (EZ σ x y)
 | .lt=>JR x y
 | .gt=>JR y x
 | .le=>lI (JR y x)
 | .ge=>lI (JR x y)
 | .is=>zW x y
 | .vN=>lI (zW x y)
 | .yq=>Ef (m_ σ x y) (n7 P x y)
 | .eU=>Ef (lI (m_ σ x y)) (vX σ x y)
noncomputable def eZ (o:Option (Option DV)):Option Bool:=match o with
 |some o=>match o with
  |some _=>some true
  |none=>some false
 |none=>none
noncomputable def RW (σ:ah) (nd:Bool) (x y:DV) (d t f:RR):RR:=match y with
 | .aj r k=>dU z σ r k fun c=>match c.b with
  | .list l=>pU z (iX l x) t f
  | .dict kd l=>match nd with
   |true=> .no
   |false=>match kd with
    | .n=>match KD.g9 (bh x) .n with
     |true=>pU z (eZ (aY l x)) t f
     |false=> .no
    |_=> .no
  |_=> .no
 |_=>d
noncomputable def EV (σ:ah) (op:wV) (x y:DV) (t f:RR):RR:=match op with
 | .yq=>RW z σ true x y (pU z (fy P σ .yq x y) t f) t f
 | .eU=>RW z σ false x y (pU z (fy P σ .eU x y) t f) f t
 |op=>pU z (fy P σ op x y) t f
noncomputable def G9 (σ:ah) (d x:DV) (q:DV→RR):RR:=match d with
 | .ai l=>match x with
  | .int i=>match i with
   | .ofNat i=>gG z i (Ax z (aL l i) q)
   | .negSucc _=> .no
  |_=> .no
 | .aj r k=>dU z σ r k fun c=>match c.b with
  | .list l=>match x with
   | .int i=>match i with
    | .ofNat i=>gG z i (Ax z (aL l i) q)
    | .negSucc j=>gG z j (gG z l.length (pU z (some (Nat.blt j l.length)) (Ax z (aL l (l.length -(j+1))) q) .no))
   |_=> .no
  | .dict kd l=>match kd with
   | .s=>match KD.g9 (bh x) .s with
    |true=>Ax z (cW l x) q
    |false=> .no
   | .n=>match KD.g9 (bh x) .n with
    |true=>Ax z (cW l x) q
    |false=> .no
   |_=> .no
  |_=> .no
 | .str s=>match x with
  | .int i=>match i with
   | .ofNat i=>match small i with
    |true=>match aL s.cps.toList i with
     |some c=>q (.str ⟨⟨[c]⟩⟩)
     |none=> .no
    |false=> .no
   | .negSucc _=> .no
  |_=> .no
 | .fn a=>match x with
  | .int i=>match i with
   | .ofNat i=>match aF P.tab a with
    |some t=>match aF t i with
     |some v=>q (.int v)
     |none=> .no
    |none=> .no
   | .negSucc _=> .no
  |_=> .no
 |_=> .no
noncomputable def AU (σ:ah) (d x v:DV) (q:ah→RR):RR:=match d with
 | .aj r k=>dU z σ r k fun c=>match c.b with
  | .list l=>match x with
   | .int i=>match i with
    | .ofNat i=>gG z i (pU z (some (Nat.blt i l.length)) (D8 z l i v fun l=>setC z σ r k c.cz (.list l) q) .no)
    | .negSucc _=> .no
   |_=> .no
  | .dict kd l=>match kd with
   | .z=>match bh x with
    | .z=> .no
    |kd=>setC z σ r k c.cz (.dict kd [(x,v)]) q
   |kd=>match KD.g9 (bh x) kd with
    |true=>gG z l.length (oJ z l x v fun l=>setC z σ r k c.cz (.dict kd l) q)
    |false=> .no
  |_=> .no
 |_=> .no
noncomputable def HX (σ:ah) (d:DV) (a:Nat) (q:DV→RR):RR:=match d with
 | .aj r k=>dU z σ r k fun c=>match c.b with
  | .inst _ as=>match aF as a with
   |some v=>q v
   |none=> .no
  |_=> .no
 |_=> .no
noncomputable def setAt (σ:ah) (d:DV) (a:Nat) (v:DV) (q:ah→RR):RR:=match d with
 | .aj r k=>dU z σ r k fun c=>match c.b with
  | .inst C as=>match Nat.ble as.length 900 with
   |true=>match wc P C a with
    |true=>c_ as a v fun as=>setC z σ r k c.cz (.inst C as) q
    |false=> .no
   |false=> .no
  |_=> .no
 |_=> .no
noncomputable def kO (x:Str) (a:Nat):Str:=match (Builtin.Str.strSliceIndices (some (a:Int)) none 1 x.length).length==x.length with
 |true=>x
 |false=>⟨((Builtin.Str.strSliceIndices (some (a:Int)) none 1 x.length).filterMap (x.cps[·]?)).toArray⟩
noncomputable def Em (σ:ah) (d b:DV) (q:DV→ah→RR):RR:=match d with
 | .aj r k=>dU z σ r k fun c=>match c.b with
  | .list l=>match b with
   | .int i=>Ax z (some (.int i)) fun b=>match b with
    | .int i=>match i with
     | .ofNat b=>gG z l.length (Ci z (l.take b) fun l=>cT z av σ (.list l) q)
     | .negSucc _=> .no
    |_=> .no
   |_=> .no
  |_=> .no
 |_=> .no
noncomputable def En (σ:ah) (d b:DV) (q:DV→ah→RR):RR:=match d with
 | .aj r k=>dU z σ r k fun c=>match c.b with
  | .list l=>match b with
   | .int i=>match i with
    | .ofNat b=>gG z l.length (Ci z (l.drop b) fun l=>cT z av σ (.list l) q)
    | .negSucc _=> .no
   |_=> .no
  |_=> .no
 | .str s=>match b with
  | .int i=>match i with
   | .ofNat a=>match small s.length with
    |true=>rR (kO s a).cps.toList fun l=>q (.str ⟨⟨l⟩⟩) σ
    |false=> .no
   | .negSucc _=> .no
  |_=> .no
 |_=> .no
noncomputable def uY (σ:ah) (d v:DV) (q:DV→ah→RR):RR:=match d with
 | .aj r k=>dU z σ r k fun c=>match c.b with
  | .list l=>gG z l.length (app z l [v] fun l=>setC z σ r k c.cz (.list l) fun σ=>q .none σ)
  |_=> .no
 |_=> .no
noncomputable def vH (σ:ah) (d v:DV) (q:DV→ah→RR):RR:=match v with
 | .aj r' k'=>match d with
  | .aj r k=>dU z σ r k fun c=>dU z σ r' k' fun c'=>match c.b with
   | .list l=>match c'.b with
    | .list F=>gG z (l.length+F.length) (app z l F fun l=>setC z σ r k c.cz (.list l) fun σ=>q .none σ)
    |_=> .no
   |_=> .no
  |_=> .no
 |_=> .no
noncomputable def DQ (σ:ah) (d x y:DV) (q:DV→ah→RR):RR:=match d with
 | .aj r k=>dU z σ r k fun c=>match c.b with
  | .dict kd l=>match kd with
   | .z=>match bh x with
    | .z=> .no
    |_=>q y σ
   |kd=>match KD.g9 (bh x) kd with
    |true=>Ax z (b8 l x y) fun v=>q v σ
    |false=> .no
  |_=> .no
 | .fn a=>match x with
  | .int i=>match i with
   | .ofNat i=>match aF P.tab a with
    |some t=>match aF t i with
     |some v=>q (.int v) σ
     |none=>q y σ
    |none=> .no
   | .negSucc _=> .no
  |_=> .no
 |_=> .no
noncomputable def splitM (σ:ah) (d y:DV) (q:DV→ah→RR):RR:=match y with
 | .str c=>match d with
  | .str s=>match small s.length&&!(c.length==0)&&small (jt s c).length with
   |true=>xK (fun (x:Str) k=>rR x.cps.toList fun l=>k (.str ⟨⟨l⟩⟩)) (jt s c) fun l=>cT z av σ (.list l) q
   |false=> .no
  |_=> .no
 |_=> .no
noncomputable def yY (σ:ah) (d x:DV) (q:DV→ah→RR):RR:=match d with
 | .aj r k=>dU z σ r k fun c=>match c.b with
  | .list l=>match KD.g9 (bh x) .r with
   |true=>gG z l.length (bo (yZ l x) fun n=>ug z n fun n=>q (.int (.ofNat n)) σ)
   |false=> .no
  |_=> .no
 |_=> .no
noncomputable def LU (σ:ah) (d:DV) (m:BM) (as:List DV) (q:DV→ah→RR):RR:=match as with
 |[]=> .no
 |v::as=>match as with
  |[]=>match m with
   | .append=>uY z σ d v q
   | .extend=>vH z σ d v q
   | .split=>splitM z av σ d v q
   | .count=>yY z σ d v q
   | .get=> .no
  |y::as=>match as with
   |[]=>match m with
    | .get=>DQ P z σ d v y q
    |_=> .no
   |_::_=> .no
noncomputable def DN (σ:ah) (d:DV) (m:BM) (q:RR):RR:=match d with
 | .aj r k=>dU z σ r k fun c=>match c.b with
  | .list _=>match m with
   | .append=>q
   | .extend=>q
   | .count=>q
   |_=> .no
  | .dict _ _=>match m with
   | .get=>q
   |_=> .no
  |_=> .no
 | .fn a=>match m with
  | .get=>match aF P.tab a with
   |some _=>q
   |none=> .no
  |_=> .no
 | .str _=>match m with
  | .split=>q
  |_=> .no
 |_=> .no
noncomputable def JG (σ:ah) (d:DV) (q:DV→RR):RR:=match d with
 | .ai l=>gG z l.length (ug z l.length fun n=>q (.int (.ofNat n)))
 | .aj r k=>dU z σ r k fun c=>match c.b with
  | .list l=>gG z l.length (ug z l.length fun n=>q (.int (.ofNat n)))
  |_=> .no
 |_=> .no
noncomputable def fD (σ:ah) (d:DV) (q:Option (Nat×Nat×Nat)→List DV→RR):RR:=match d with
 | .ai l=>gG z l.length (q none l)
 | .aj r k=>dU z σ r k fun c=>match c.b with
  | .list l=>gG z l.length (q (some (r,k,c.cz)) l)
  |_=> .no
 |_=> .no
noncomputable def nF:Nat→Nat→(List DV→β)→β
 |_,0,k=>k []
 |i,n+1,k=>kZ (i+1) fun j=>nF j n fun l=>k (.int (.ofNat i)::l)
noncomputable def kJ (d:DV) (q:Option (Nat×Nat×Nat)→List DV→RR):RR:=match d with
 | .int i=>match i with
  | .ofNat n=>gG z n (nF 0 n fun l=>q none l)
  | .negSucc _=> .no
 |_=> .no
noncomputable def eS:List Nat→List DV→Option Lc
 |[],l=>match l with
  |[]=>some []
  |_::_=>none
 |x::xs,l=>match l with
  |[]=>none
  |v::vs=>match eS xs vs with
   |some r=>some ((x,v)::r)
   |none=>none
noncomputable def putAll:Lc→Lc→(Lc→β)→β
 |[],ls,k=>k ls
 |p::l,ls,k=>c_ ls p.1 p.2 fun ls=>putAll l ls k
noncomputable def DM (xs:List Nat) (d:DV) (ls:Lc) (k:Lc→RR):RR:=match xs with
 |[]=> .no
 |x::xs=>match xs with
  |[]=>c_ ls x d k
  |y::xs=>match d with
   | .ai ds=>match eS (x::y::xs) ds with
    |some bs=>putAll bs ls k
    |none=> .no
   |_=> .no
noncomputable def ef:List (DV×DV)→List (DV×DV)→(List (DV×DV)→RR)→RR
 |acc,[],k=>k acc
 |acc,p::l,k=>match bh p.1 with
  | .s=>oJ z acc p.1 p.2 fun acc=>ef acc l k
  |_=> .no
noncomputable def jj:List Nat→Lc→ah→(Lc→ah→RR)→RR
 |[],ls,σ,k=>k ls σ
 |x::xs,ls,σ,k=>cT z av σ (.var (aF ls x)) fun l σ=>c_ ls x l fun ls=>jj xs ls σ k
noncomputable def pick:List Nat→Lc→Option Lc
 |[],_=>some []
 |x::xs,ls=>match aF ls x with
  |some d=>match pick xs ls with
   |some r=>some ((x,d)::r)
   |none=>none
  |none=>none
noncomputable def bv (o:RR) (k:DV→ah→RR):RR:=o.bind fun r σ Z=>match r with
 | .v d=>k d σ
 |_=> .no
noncomputable def LY (o:RR) (k:DV→ah→RR):RR:=o.bind fun r σ Z=>match r with
 | .v d=>k d σ
 | .z d=>k d σ
 |_=> .no
noncomputable def DO (o:RR) (k:DV→ah→RR):RR:=o.bind fun r σ Z=>match r with
 | .v d=>k d σ
 | .y=> .ok .y σ []
 |_=> .no
noncomputable def g6 (o:RR) (k:List DV→ah→RR):RR:=o.bind fun r σ Z=>match r with
 | .vs d=>k d σ
 |_=> .no
noncomputable def BP (o:RR) (k:List (DV×DV)→ah→RR):RR:=o.bind fun r σ Z=>match r with
 | .kv d=>k d σ
 |_=> .no
noncomputable def bb (o:RR) (kt M:ah→RR):RR:=o.bind fun r σ Z=>match r with
 | .b b=>match b with
  |true=>kt σ
  |false=>M σ
 |_=> .no
noncomputable def yo (o:RR) (k:ah→Lc→RR):RR:=o.bind fun r σ ls=>match r with
 | .f fl=>match fl with
  | .next=>k σ ls
  | .ret d=> .ok (.f (.ret d)) σ ls
 |_=> .no
noncomputable def bf (o:RR) (k:ah→Lc→RR):RR:=o.bind fun r σ ls=>match r with
 | .f fl=>match fl with
  | .next=>k σ ls
  | .ret d=> .ok (.f (.ret d)) σ ls
 | .x=> .ok .x σ []
 | .y=> .ok .y σ []
 |_=> .no
noncomputable def yU (o:RR) (ls:Lc):RR:=o.bind fun r σ Z=>match r with
 | .f fl=>match fl with
  | .next=> .ok (.v .none) σ ls
  | .ret d=> .ok (.v d) σ ls
 | .x=> .ok .y σ []
 | .z d=> .ok (.z d) σ ls
 |_=> .no
noncomputable def bx (o:RR) (k:ah→RR) (L:ah→Lc→RR):RR:=o.bind fun r σ ls=>match r with
 | .f fl=>match fl with
  | .next=>L σ ls
  | .ret d=> .ok (.f (.ret d)) σ ls
 | .y=>k σ
 |_=> .no
noncomputable def CS (h:List MS):Option DV:=match h with
 |[]=>none
 |m::_=>match m with
  | .ret e=>match e with
   |none=>none
   |some e=>match e with
    | .c d=>match d with
     | .int i=>some (.int i)
     |_=>none
    | .neg e=>match e with
     | .c d=>match d with
      | .int i=>some (.int (-i))
      |_=>none
     |_=>none
    |_=>none
  |_=>none
noncomputable def I7 (c:Bool) (k:RR):RR:=match c with
 |true=>k
 |false=> .no
noncomputable def HD (d:DV) (k:Int→RR):RR:=match d with
 | .int i=>k i
 |_=> .no
noncomputable def isNone (d:DV) (k:RR):RR:=match d with
 | .none=>k
 |_=> .no
noncomputable def isTup (d:DV) (k:List DV→RR):RR:=match d with
 | .ai l=>k l
 |_=> .no
noncomputable def Ft (σ:ah) (d:DV) (k:Addr→RR):RR:=match d with
 | .aj r i=>dU z σ r i fun c=>match c.b with
  | .inst C _=>k C
  |_=> .no
 |_=> .no
noncomputable def eW (σ:ah) (g:zO):Bool:=match g with
 |none=>true
 |some (r,k,v)=>match aN σ r k with
  |some c=>Nat.beq c.cz v
  |none=>false
noncomputable def nN (z:Bool) (σ:ah) (g:zO) (k:RR):RR:=match g with
 |none=>k
 |some (r,i,v)=>dU z σ r i fun c=>pU z (some (Nat.beq c.cz v)) k .no
noncomputable def yt (B:RA) (σ:ah) (ls:Lc) (k:Nat→ah→RR):RR:=match B with
 | .av=>k av σ
 | .bX R=>k R σ
 | .sel x=>match aF ls x with
  |some d=>match d with
   | .aj r i=>dU z σ r i fun c=>match c.b with
    | .list l=>pU z (some (Nat.blt l.length 4)) (k 3 σ) (k 2 σ)
    |_=> .no
   |_=> .no
  |none=> .no
noncomputable def yX (rc:Tk→ah→Lc→RR) (xs:List Nat) (elt:ME) (ig:Bool) (it:ME) (cond:Option ME) (fv:List Nat) (σ:ah) (ls:Lc) (k:DV→ah→RR):RR:=
 bo (pick fv ls) fun l0=>bv (rc (.e it) σ ls) fun d σ=>(match ig with|true=>kJ z d|false=>fD z σ d) fun g ds=>g6 (rc (.cp xs g ds elt cond) σ l0) fun vs σ=>gG z vs.length (cT z av σ (.list vs) k)
noncomputable def KO (rc:Tk→ah→Lc→RR) (m:ME) (σ:ah) (ls:Lc):RR:=match m with
  | .not e=>bb (rc (.b e) σ ls) (fun σ=> .ok (.b false) σ ls) (fun σ=> .ok (.b true) σ ls)
  | .and l=>match l with
   |[]=> .ok (.b true) σ ls
   |e::l=>bb (rc (.b e) σ ls) (fun σ=>rc (.b (.and l)) σ ls) (fun σ=> .ok (.b false) σ ls)
  | .or l=>match l with
   |[]=> .ok (.b false) σ ls
   |e::l=>bb (rc (.b e) σ ls) (fun σ=> .ok (.b true) σ ls) (fun σ=>rc (.b (.or l)) σ ls)
  | .ite _ _ _=> .no
  | .bad=> .no
  | .cmp op a b=>bv (rc (.e a) σ ls) fun x σ=>bv (rc (.e b) σ ls) fun y σ=>EV P z σ op x y (.ok (.b true) σ ls) (.ok (.b false) σ ls)
  |e=>bv (rc (.e e) σ ls) fun d σ=>iL z σ d (.ok (.b true) σ ls) (.ok (.b false) σ ls)
noncomputable def cC (rc:Tk→ah→Lc→RR) (rx:Bool→Nat→Tk→ah→Lc→RR) (m:ME) (σ:ah) (ls:Lc):RR:=match m with
  | .l x=>bo (aF ls x) fun d=> .ok (.v d) σ ls
  | .lc x=>bo (aF ls x) fun d=>match d with
   | .aj r k=>dU z σ r k fun c=>match c.b with
    | .var o=>bo o fun d=> .ok (.v d) σ ls
    |_=> .no
   |_=> .no
  | .c d=> .ok (.v d) σ ls
  | .g d=> .ok (.v d) σ ls
  | .bX e a=>bv (rc (.e e) σ ls) fun d σ=>HX z σ d a fun v=> .ok (.v v) σ ls
  | .sub e i=>bv (rc (.e e) σ ls) fun d σ=>bv (rc (.e i) σ ls) fun x σ=>G9 P z σ d x fun v=> .ok (.v v) σ ls
  | .n_ e b=>bv (rc (.e e) σ ls) fun d σ=>bv (rc (.e b) σ ls) fun x σ=>Em z av σ d x fun v σ=> .ok (.v v) σ ls
  | .qT e a=>bv (rc (.e e) σ ls) fun d σ=>bv (rc (.e a) σ ls) fun x σ=>En z av σ d x fun v σ=> .ok (.v v) σ ls
  | .bin op a b=>bv (rc (.e a) σ ls) fun x σ=>bv (rc (.e b) σ ls) fun y σ=>BK z av σ op x y fun v σ=> .ok (.v v) σ ls
  | .neg e=>bv (rc (.e e) σ ls) fun d σ=>HD d fun i=>rP z (-i) fun i=> .ok (.v (.int i)) σ ls
  | .not e=>bv (rc (.e e) σ ls) fun d σ=>iL z σ d (.ok (.v (.bool false)) σ ls) (.ok (.v (.bool true)) σ ls)
  | .cmp op a b=>bv (rc (.e a) σ ls) fun x σ=>bv (rc (.e b) σ ls) fun y σ=>EV P z σ op x y (.ok (.v (.bool true)) σ ls) (.ok (.v (.bool false)) σ ls)
  | .and l=>match l with
   |[]=> .no
   |e::l=>match l with
    |[]=>rc (.e e) σ ls
    |H::l=>bv (rc (.e e) σ ls) fun d σ=>iL z σ d (rc (.e (.and (H::l))) σ ls) (.ok (.v d) σ ls)
  | .or l=>match l with
   |[]=> .no
   |e::l=>match l with
    |[]=>rc (.e e) σ ls
    |H::l=>bv (rc (.e e) σ ls) fun d σ=>iL z σ d (.ok (.v d) σ ls) (rc (.e (.or (H::l))) σ ls)
  | .ite c a b=>bb (rc (.b c) σ ls) (fun σ=>rc (.e a) σ ls) (fun σ=>rc (.e b) σ ls)
  | .ai l=>g6 (rc (.es l) σ ls) fun ds σ=>gG z ds.length (.ok (.v (.ai ds)) σ ls)
  | .lst l=>g6 (rc (.es l) σ ls) fun ds σ=>gG z ds.length (cT z av σ (.list ds) fun v σ=> .ok (.v v) σ ls)
  | .dct l=>match l with
   |[]=>cT z av σ (.dict .z []) fun v σ=> .ok (.v v) σ ls
   |p::l=>match Nat.ble (p::l).length 15 with
    |true=>BP (rc (.kv (p::l)) σ ls) fun ds σ=>ef z [] ds fun es=>cT z av σ (.dict .s es) fun v σ=> .ok (.v v) σ ls
    |false=>I7 (Nat.ble 18 (p::l).length&&Nat.ble (p::l).length 30)<|BP (rc (.kv ((p::l).take 17)) σ ls) fun ds σ=>BP (rc (.kv ((p::l).drop 17)) σ ls) fun I σ=>ef z [] ds fun es=>ef z [] I fun G=>ef z es G fun es=>cT z av σ (.dict .s es) fun v σ=> .ok (.v v) σ ls
  | .call A B f as=>g6 (rc (.es as) σ ls) fun ds σ=>yt z av B σ ls fun R σ=>DO (rx (match A with|some A=>A|none=>z) R (.call f ds) σ []) fun d σ=> .ok (.v d) σ ls
  | .kU A B f as=>g6 (rc (.es as) σ ls) fun ds σ=>yt z av B σ ls fun R σ=>LY (rx (match A with|some A=>A|none=>z) R (.call f ds) σ []) fun d σ=> .ok (.v d) σ ls
  | .new C as=>g6 (rc (.es as) σ ls) fun ds σ=>bo (aF P.init C) fun f=>cT z av σ (.inst C []) fun v σ=>bv (rc (.call f (v::ds)) σ []) fun d σ=>isNone d (.ok (.v v) σ ls)
  | .eL o m as=>bv (rc (.e o) σ ls) fun d σ=>Ft z σ d fun C=>I7 (!wc P C m) (bo (aF P.eL C) fun t=>bo (aF t m) fun f=>g6 (rc (.es as) σ ls) fun ds σ=>bv (rc (.call f (d::ds)) σ []) fun v σ=> .ok (.v v) σ ls)
  | .bm o m as=>bv (rc (.e o) σ ls) fun d σ=>DN P z σ d m (g6 (rc (.es as) σ ls) fun ds σ=>LU P z av σ d m ds fun v σ=> .ok (.v v) σ ls)
  | .len e=>bv (rc (.e e) σ ls) fun d σ=>JG z σ d fun v=> .ok (.v v) σ ls
  | .tupleOf e=>bv (rc (.e e) σ ls) fun d σ=>fD z σ d fun Z l=> .ok (.v (.ai l)) σ ls
  | .comp xs elt ig it cond fv=>yX z av rc xs elt ig it cond fv σ ls fun v σ=> .ok (.v v) σ ls
  | .bad=> .no
noncomputable def eE (rc:Tk→ah→Lc→RR) (m:MS) (l:List MS) (σ:ah) (ls:Lc):RR:=match m with
  | .b7 x e=>bv (rc (.e e) σ ls) fun d σ=>c_ ls x d fun ls=>rc (.ss l) σ ls
  | .mJ x e=>match e with
   | .comp xs elt ig it cond fv=>yX z av rc xs elt ig it cond fv σ ls fun d σ=>c_ ls x d fun ls=>rc (.ss l) σ ls
   |_=> .no
  | .kc x e=>bv (rc (.e e) σ ls) fun d σ=>bo (aF ls x) fun y=>match y with
   | .aj r k=>dU z σ r k fun c=>match c.b with
    | .var _=>setC z σ r k c.cz (.var (some d)) fun σ=>rc (.ss l) σ ls
    |_=> .no
   |_=> .no
  | .a_ o a e=>bv (rc (.e e) σ ls) fun d σ=>bv (rc (.e o) σ ls) fun y σ=>setAt P z σ y a d fun σ=>rc (.ss l) σ ls
  | .cS o i e=>bv (rc (.e e) σ ls) fun d σ=>bv (rc (.e o) σ ls) fun y σ=>bv (rc (.e i) σ ls) fun x σ=>AU z σ y x d fun σ=>rc (.ss l) σ ls
  | .wY xs e=>bv (rc (.e e) σ ls) fun d σ=>isTup d fun ds=>bo (eS xs ds) fun bs=>putAll bs ls fun ls=>rc (.ss l) σ ls
  | .aug x op e=>bo (aF ls x) fun o=>HD o fun a=>bv (rc (.e e) σ ls) fun d σ=>HD d fun b=>bo (binI op a b) fun c=>rP z c fun c=>c_ ls x (.int c) fun ls=>rc (.ss l) σ ls
  | .w7 o i op e=>bv (rc (.e o) σ ls) fun y σ=>bv (rc (.e i) σ ls) fun x σ=>G9 P z σ y x fun v=>HD v fun a=>bv (rc (.e e) σ ls) fun d σ=>HD d fun b=>bo (binI op a b) fun c=>rP z c fun c=>AU z σ y x (.int c) fun σ=>rc (.ss l) σ ls
  | .ex e=>bv (rc (.e e) σ ls) fun Z σ=>rc (.ss l) σ ls
  | .iff c a b=>bb (rc (.b c) σ ls) (fun σ=>bf (rc (.ss a) σ ls) fun σ ls=>rc (.ss l) σ ls) (fun σ=>bf (rc (.ss b) σ ls) fun σ ls=>rc (.ss l) σ ls)
  | .cj x e body=>bv (rc (.e e) σ ls) fun d σ=>kJ z d fun g ds=>yo (rc (.cj x g ds body) σ ls) fun σ ls=>rc (.ss l) σ ls
  | .forL x e body=>bv (rc (.e e) σ ls) fun d σ=>fD z σ d fun g ds=>yo (rc (.cj x g ds body) σ ls) fun σ ls=>rc (.ss l) σ ls
  | .yg body D=>bx (rc (.ss body) σ ls) (fun σ=>bo (CS D) fun d=> .ok (.z d) σ []) fun σ ls=>rc (.ss l) σ ls
  | .yv c body=>yo (rc (.yv c body) σ ls) fun σ ls=>rc (.ss l) σ ls
  | .ret e=>match e with
   |none=> .ok (.f (.ret .none)) σ ls
   |some e=>DO (rc (.e e) σ ls) fun d σ=> .ok (.f (.ret d)) σ ls
  | .cu as=>g6 (rc (.es as) σ ls) fun ds σ=>I7 (Nat.beq ds.length 2) (.ok .x σ [])
  | .bad=> .no
noncomputable def step (rc:Tk→ah→Lc→RR) (rx:Bool→Nat→Tk→ah→Lc→RR) (t:Tk) (σ:ah) (ls:Lc):RR:=match t with
  | .es l=>match l with
   |[]=> .ok (.vs []) σ ls
   |e::l=>bv (rc (.e e) σ ls) fun d σ=>g6 (rc (.es l) σ ls) fun ds σ=> .ok (.vs (d::ds)) σ ls
  | .kv l=>match l with
   |[]=> .ok (.kv []) σ ls
   |p::l=>bv (rc (.e p.1) σ ls) fun x σ=>I7 (Nm x) (bv (rc (.e p.2) σ ls) fun y σ=>BP (rc (.kv l) σ ls) fun ds σ=> .ok (.kv ((x,y)::ds)) σ ls)
  | .b m=>KO P z rc m σ ls
  | .e m=>cC P z av rc rx m σ ls
  | .call f as=>bo (aF P.fn f) fun mf=>bo (eS mf.ps as) fun bs=>jj z av mf.cv bs σ fun bs σ=>yU (rc (.ss mf.body) σ bs) ls
  | .cj x g ds body=>match ds with
   |[]=> .ok (.f .next) σ ls
   |d::ds=>c_ ls x d fun ls=>yo (rc (.ss body) σ ls) fun σ ls=>nN z σ g (rc (.cj x g ds body) σ ls)
  | .yv c body=>bb (rc (.b c) σ ls) (fun σ=>yo (rc (.ss body) σ ls) fun σ ls=>rc (.yv c body) σ ls) (fun σ=> .ok (.f .next) σ ls)
  | .cp xs g ds elt cond=>match ds with
   |[]=> .ok (.vs []) σ ls
   |d::ds=>DM xs d ls fun ls=>match cond with
    |none=>bv (rc (.e elt) σ ls) fun v σ=>nN z σ g (g6 (rc (.cp xs g ds elt cond) σ ls) fun vs σ=> .ok (.vs (v::vs)) σ ls)
    |some q=>bb (rc (.b q) σ ls) (fun σ=>nN z σ g (bv (rc (.e elt) σ ls) fun v σ=>nN z σ g (g6 (rc (.cp xs g ds elt cond) σ ls) fun vs σ=> .ok (.vs (v::vs)) σ ls)))
      (fun σ=>nN z σ g (rc (.cp xs g ds elt cond) σ ls))
  | .ss l=>match l with
   |[]=> .ok (.f .next) σ ls
   |m::l=>eE P z av rc m l σ ls
end
noncomputable def rn (P:Pg):Nat→Bool→Nat→Tk→ah→Lc→RR
 |0=>fun Z Z Z Z Z=> .no
 |n+1=>fun z av=>step P z av (rn P n z av) (rn P n)
noncomputable def cf (n:Nat):Nat:= @ite Nat (500≤n) (Classical.propDecidable _) 500 n
noncomputable def run (P:Pg):Nat→Bool→Nat→Tk→ah→Lc→RR
 |0=>fun Z Z Z Z Z=> .no
 |n+1=>fun z av=>step P z av (run P n z av) fun z R=>match z with
  |true=>rn P (cf n) true R
  |false=>run P n false R
end
abbrev zL:=List DV
abbrev zD:=List (DV×DV)
abbrev zP:=Rs→ah→Lc→Prop
abbrev zT:=Tk→ah→Lc→RR
end
noncomputable def qd:Nat→Nat→List Nat
 |0,_=>[]
 |k+1,n=>Nat.mod n 256::qd k (Nat.div n 256)
noncomputable abbrev qN (k n:Nat):Str:=⟨⟨qd k n⟩⟩
noncomputable abbrev qD (k n:Nat):DV:= .str ⟨⟨qd k n⟩⟩
noncomputable abbrev qS (k n:Nat):ME:= .c (.str ⟨⟨qd k n⟩⟩)
noncomputable abbrev qJ (n:Nat):DV:= .int (.ofNat n)
noncomputable abbrev qI (n:Nat):ME:= .c (.int (.ofNat n))
noncomputable abbrev qC (f:Addr) (l:List ME):ME:= .call none .av f l
noncomputable abbrev qL (x a:Nat):ME:= .bX (.l x) a
noncomputable abbrev qG (n:Nat):ME:= .g (.int (.ofNat n))
noncomputable abbrev qE (a b:ME):ME:= .cmp .eq a b
noncomputable abbrev qR (e:ME):MS:= .ret (some e)
noncomputable abbrev qA (e x:ME):MS:= .ex (.bm e .append [x])
noncomputable abbrev qH (c:ME) (b:List MS):MS:= .iff c b []
noncomputable def rF:DV:=(.ai [.ai [qJ 1,qD 6 0x7463656a624f,qJ 1,qJ 0,qJ 0,.ai [],.ai []],.ai [qJ 2,qD 9 0x6570795465756c6156,qJ 1,qJ 1,qJ 1,.ai [],.ai []],.ai [qJ 3,qD 4 0x6d756e45,qJ 1,qJ 1,qJ 2,.ai [],.ai []],.ai [qJ 4,qD 6 0x676e69727453,qJ 1,qJ 2,qJ 1,.ai [],.ai []],.ai [qJ 5,qD 5 0x7961727241,qJ 1,qJ 1,qJ 1,.ai [],.ai []],.ai [qJ 6,qD 8 0x65746167656c6544,qJ 1,qJ 1,qJ 1,.ai [],.ai []],.ai [qJ 7,qD 9 0x6e6f69747065637845,qJ 1,qJ 0,qJ 1,.ai [],.ai []],.ai [qJ 8,qD 8 0x656c62616c6c754e,qJ 2,qJ 2,qJ 2,.ai [qD 1 0x54],.ai [qJ 0]],.ai [qJ 9,qD 7 0x6e61656c6f6f42,qJ 2,qJ 2,qJ 2,.ai [],.ai []],.ai [qJ 10,qD 4 0x72616843,qJ 2,qJ 2,qJ 2,.ai [],.ai []],.ai [qJ 11,qD 5 0x6574794253,qJ 2,qJ 2,qJ 2,.ai [],.ai []],.ai [qJ 12,qD 4 0x65747942,qJ 2,qJ 2,qJ 2,.ai [],.ai []],.ai [qJ 13,qD 5 0x3631746e49,qJ 2,qJ 2,qJ 2,.ai [],.ai []],.ai [qJ 14,qD 6 0x3631746e4955,qJ 2,qJ 2,qJ 2,.ai [],.ai []],.ai [qJ 15,qD 5 0x3233746e49,qJ 2,qJ 2,qJ 2,.ai [],.ai []],.ai [qJ 16,qD 6 0x3233746e4955,qJ 2,qJ 2,qJ 2,.ai [],.ai []],.ai [qJ 17,qD 5 0x3436746e49,qJ 2,qJ 2,qJ 2,.ai [],.ai []],.ai [qJ 18,qD 6 0x3436746e4955,qJ 2,qJ 2,qJ 2,.ai [],.ai []],.ai [qJ 19,qD 6 0x727450746e49,qJ 2,qJ 2,qJ 2,.ai [],.ai []],.ai [qJ 20,qD 4 0x64696f56,qJ 2,qJ 2,qJ 2,.ai [],.ai []],.ai [qJ 21,qD 22 0x6e6f6974706563784565636e6572656665526c6c754e,qJ 1,qJ 0,qJ 7,.ai [],.ai []],.ai [qJ 22,qD 24 0x6e6f6974706563784565676e6152664f74754f7865646e49,qJ 1,qJ 2,qJ 7,.ai [],.ai []],.ai [qJ 23,qD 20 0x6e6f697470656378457473614364696c61766e49,qJ 1,qJ 0,qJ 7,.ai [],.ai []],.ai [qJ 24,qD 19 0x6e6f69747065637845636974656d6874697241,qJ 1,qJ 0,qJ 7,.ai [],.ai []],.ai [qJ 25,qD 21 0x6e6f697470656378456f72655a7942656469766944,qJ 1,qJ 0,qJ 24,.ai [],.ai []],.ai [qJ 26,qD 17 0x6e6f69747065637845776f6c667265764f,qJ 1,qJ 0,qJ 24,.ai [],.ai []],.ai [qJ 27,qD 26 0x6e6f69747065637845686374616d73694d657079547961727241,qJ 1,qJ 0,qJ 7,.ai [],.ai []],.ai [qJ 28,qD 27 0x6e6f697470656378456e6f6974617a696c616974696e4965707954,qJ 1,qJ 2,qJ 7,.ai [],.ai []],.ai [qJ 29,qD 25 0x6e6f697470656378456e6f6974617265704f64696c61766e49,qJ 1,qJ 0,qJ 7,.ai [],.ai []],.ai [qJ 30,qD 20 0x6e6f6974706563784579726f6d654d664f74754f,qJ 1,qJ 0,qJ 7,.ai [],.ai []],.ai [qJ 31,qD 17 0x6e6f69747065637845746e656d75677241,qJ 1,qJ 0,qJ 7,.ai [],.ai []],.ai [qJ 32,qD 27 0x6e6f6974706563784565676e6152664f74754f746e656d75677241,qJ 1,qJ 0,qJ 31,.ai [],.ai []],.ai [qJ 33,qD 21 0x6e6f69747065637845646574726f70707553746f4e,qJ 1,qJ 0,qJ 7,.ai [],.ai []],.ai [qJ 34,qD 11 0x656c6261736f7073694449,qJ 3,qJ 1,qJ 0,.ai [],.ai []],.ai [qJ 35,qD 11 0x656c626172656d756e4549,qJ 3,qJ 1,qJ 0,.ai [qD 1 0x54],.ai [qJ 1]],.ai [qJ 36,qD 11 0x726f746172656d756e4549,qJ 3,qJ 1,qJ 0,.ai [qD 1 0x54],.ai [qJ 1]],.ai [qJ 37,qD 4 0x7473694c,qJ 1,qJ 0,qJ 1,.ai [qD 1 0x54],.ai [qJ 0]],.ai [qJ 38,qD 4 0x6b736154,qJ 1,qJ 0,qJ 1,.ai [],.ai []],.ai [qJ 39,qD 4 0x6b736154,qJ 1,qJ 0,qJ 38,.ai [qD 1 0x54],.ai [qJ 0]],.ai [qJ 40,qD 12 0x7265646c697542636e797341,qJ 1,qJ 2,qJ 1,.ai [],.ai []],.ai [qJ 41,qD 12 0x7265646c697542636e797341,qJ 1,qJ 2,qJ 1,.ai [qD 1 0x54],.ai [qJ 0]],.ai [qJ 42,qD 13 0x656e696863614d636e79734149,qJ 3,qJ 1,qJ 0,.ai [],.ai []],.ai [qJ 43,qD 7 0x656c6f736e6f43,qJ 1,qJ 3,qJ 1,.ai [],.ai []],.ai [qJ 44,qD 6 0x6e6f69746341,qJ 4,qJ 2,qJ 6,.ai [],.ai []],.ai [qJ 45,qD 6 0x6e6f69746341,qJ 4,qJ 2,qJ 6,.ai [qD 1 0x54],.ai [qJ 2]],.ai [qJ 46,qD 4 0x636e7546,qJ 4,qJ 2,qJ 6,.ai [qD 1 0x52],.ai [qJ 1]],.ai [qJ 47,qD 4 0x636e7546,qJ 4,qJ 2,qJ 6,.ai [qD 1 0x41,qD 1 0x52],.ai [qJ 2,qJ 1]],.ai [qJ 48,qD 11 0x656c62617261706d6f4349,qJ 3,qJ 1,qJ 0,.ai [qD 1 0x54],.ai [qJ 2]],.ai [qJ 49,qD 2 0x4347,qJ 1,qJ 3,qJ 1,.ai [],.ai []],.ai [qJ 50,qD 7 0x6665526b616557,qJ 1,qJ 2,qJ 1,.ai [],.ai []],.ai [qJ 51,qD 4 0x65707954,qJ 1,qJ 2,qJ 1,.ai [],.ai []],.ai [qJ 52,qD 9 0x72656c756465686353,qJ 1,qJ 3,qJ 1,.ai [],.ai []],.ai [qJ 53,qD 4 0x636e7546,qJ 4,qJ 2,qJ 6,.ai [qD 1 0x41,qD 1 0x42,qD 1 0x52],.ai [qJ 2,qJ 2,qJ 1]],.ai [qJ 54,qD 9 0x657461636964657250,qJ 4,qJ 2,qJ 6,.ai [qD 1 0x54],.ai [qJ 2]],.ai [qJ 55,qD 8 0x6d756e457473694c,qJ 1,qJ 2,qJ 1,.ai [qD 1 0x54],.ai [qJ 0]]])
noncomputable def fV:MF:=⟨[68,24],[],[qH (.cmp .yq (.l 24) (.g (.fn 48))) [qR (.sub (.g (.fn 48)) (.l 24))],.b7 73 (.sub (qL 68 61) (.l 24)),.b7 22 (.lst []),.cj 67 (.len (qL 73 32)) [qA (.l 22) (qC 160 [qL 68 21,.l 67])],qR (qC 641 [.l 68,.l 24,.tupleOf (.l 22)])]⟩
noncomputable def JE:List (Nat×Nat):=[(13,0x3a7463656a624f207373616c63),(18,0x6570795465756c6156207463617274736261),(23,0x6570795465756c61563a6d756e45207463617274736261),(13,0x676e697274532064656c616573),(14,0x7961727241207463617274736261),(17,0x65746167656c6544207463617274736261),(15,0x6e6f69747065637845207373616c63),(18,0x545e20656c62616c6c754e20746375727473),(14,0x6e61656c6f6f4220746375727473),(11,0x7261684320746375727473),(12,0x657479425320746375727473),(11,0x6574794220746375727473),(12,0x3631746e4920746375727473),(13,0x3631746e495520746375727473),(12,0x3233746e4920746375727473),(13,0x3233746e495520746375727473),(12,0x3436746e4920746375727473),(13,0x3436746e495520746375727473),(13,0x727450746e4920746375727473),(11,0x64696f5620746375727473),(38,0x6e6f697470656378453a6e6f6974706563784565636e6572656665526c6c754e207373616c63),(41,0x6e6f697470656378453a6e6f6974706563784565676e6152664f74754f7865646e492064656c616573),(36,0x6e6f697470656378453a6e6f697470656378457473614364696c61766e49207373616c63),(35,0x6e6f697470656378453a6e6f69747065637845636974656d6874697241207373616c63),(47,0x6e6f69747065637845636974656d68746972413a6e6f697470656378456f72655a7942656469766944207373616c63),(43,0x6e6f69747065637845636974656d68746972413a6e6f69747065637845776f6c667265764f207373616c63),(42,0x6e6f697470656378453a6e6f69747065637845686374616d73694d657079547961727241207373616c63),(44,0x6e6f697470656378453a6e6f697470656378456e6f6974617a696c616974696e49657079542064656c616573),(41,0x6e6f697470656378453a6e6f697470656378456e6f6974617265704f64696c61766e49207373616c63),(36,0x6e6f697470656378453a6e6f6974706563784579726f6d654d664f74754f207373616c63),(33,0x6e6f697470656378453a6e6f69747065637845746e656d75677241207373616c63),(51,0x6e6f69747065637845746e656d756772413a6e6f6974706563784565676e6152664f74754f746e656d75677241207373616c63),(37,0x6e6f697470656378453a6e6f69747065637845646574726f70707553746f4e207373616c63),(21,0x656c6261736f707369444920656361667265746e69),(24,0x542b20656c626172656d756e454920656361667265746e69),(24,0x542b20726f746172656d756e454920656361667265746e69),(12,0x54207473694c207373616c63),(10,0x6b736154207373616c63),(17,0x54206b7361543a6b736154207373616c63),(19,0x7265646c697542636e7973412064656c616573),(21,0x54207265646c697542636e7973412064656c616573),(23,0x656e696863614d636e7973414920656361667265746e69),(14,0x656c6f736e6f4320636974617473),(15,0x6e6f697463412065746167656c6564),(18,0x542d206e6f697463412065746167656c6564),(16,0x522b20636e75462065746167656c6564),(19,0x522b20412d20636e75462065746167656c6564),(24,0x542d20656c62617261706d6f434920656361667265746e69),(9,0x434720636974617473),(14,0x6665526b6165572064656c616573),(11,0x657079542064656c616573),(16,0x72656c75646568635320636974617473),(22,0x522b20422d20412d20636e75462065746167656c6564),(21,0x542d206574616369646572502065746167656c6564),(17,0x54206d756e457473694c2064656c616573)]
noncomputable def fC:MF:=⟨[68,90],[],[.cj 26 (.len (qL 68 61)) [qH (.or [.cmp .ge (.l 26) (.len (.sub (.l 90) (qS 5 0x7365707974))),.cmp .ne (qC 711 [.l 68,.sub (qL 68 61) (.l 26)]) (.sub (.sub (.l 90) (qS 5 0x7365707974)) (.l 26))]) [qR (.c (.bool false))]],.b7 96 (.dct [((qS 5 0x7365707974),(.n_ (.sub (.l 90) (qS 5 0x7365707974)) (.len (qL 68 61)))),((qS 5 0x73656d616e),(qL 68 63)),((qS 4 0x736d7361),(qL 68 64)),((qS 5 0x7972746e65),(qL 68 65))]),.cS (.l 96) (qS 6 0x73646c656966) (.comp [97] (.ite (.cmp .is (.l 97) (.c .none)) (qI 0) (qL 97 48)) false (qL 68 62) none []),.cS (.l 96) (qS 7 0x73646f6874656d) (.comp [75] (.ite (.cmp .is (.l 75) (.c .none)) (qI 0) (qL 75 48)) false (qL 68 39) none []),qR (qE (.l 96) (.l 90))]⟩
noncomputable def kY:MF:=⟨[68,90,24],[68],[.b7 12 (.sub (.sub (.l 90) (qS 5 0x7365707974)) (.l 24)),.b7 4 (.len (.sub (.l 12) (qS 6 0x736d61726170))),qH (.cmp .ne (qC 655 [.lc 68,.sub (.l 12) (qS 4 0x656d616e),.l 4]) (.l 24)) [qR (.c (.bool false))],.b7 13 (qC 634 [.lc 68,.l 24]),.b7 103 (.ai [.ite (qE (.sub (.l 12) (qS 4 0x74726f73)) (qG 2)) (qG 3) (qG 2),.l 24,.comp [26] (.ai [qG 6,.l 26]) true (.l 4) none []]),.b7 104 (.eL (.bX (.lc 68) 21) 12 [.l 13]),qH (qE (.len (.l 104)) (qI 3)) [.b7 104 (.ai [.sub (.l 104) (qI 0),.sub (.l 104) (qI 1),.comp [23] (.eL (.bX (.lc 68) 21) 12 [.l 23]) false (.sub (.l 104) (qI 2)) none [68]])],qH (.and [.cmp .le (qI 9) (.l 24),.cmp .le (.l 24) (qI 19)]) [.b7 103 (.ai [qG 1,.bin .sub (.l 24) (qI 8)])],qH (.or [qE (.l 24) (qI 1),qE (.l 24) (qI 4)]) [.b7 103 (.ai [qG 1,.bin .add (qG 12) (.bin .fdiv (.l 24) (qI 4))])],qH (qE (.l 24) (qI 20)) [.b7 103 (.ai [qG 1,qG 0])],qH (.cmp .ne (.l 104) (.l 103)) [qR (.c (.bool false))],.b7 95 (.ite (qE (.l 24) (qI 20)) (.ai []) (.sub (.l 12) (qS 4 0x65736162))),.cj 26 (qI 6) [.b7 13 (qC 662 [.lc 68,.l 13]),qH (.or [.cmp .lt (.l 13) (qI 0),.not (.l 95)]) [qR (.and [.cmp .lt (.l 13) (qI 0),.not (.l 95)])],qH (.cmp .ne (.eL (.bX (.lc 68) 21) 12 [.l 13]) (.l 95)) [qR (.c (.bool false))],.b7 95 (.sub (.sub (.sub (.l 90) (qS 5 0x7365707974)) (.ite (qE (.len (.l 95)) (qI 3)) (.sub (.l 95) (qI 1)) (qI 1))) (qS 4 0x65736162))],qR (.c (.bool false))]⟩
noncomputable def gx:MF:=⟨[105],[106,90],[.b7 84 (.dct [((qS 2 0x6e69),(.n_ (.l 105) (qI 32))),((qS 2 0x7461),(qI 0))]),.kc 90 (.call (some true) (.bX 1) 704 []),.kc 106 (.call (some true) (.sel 105) 501 []),.b7 107 (.lst []),.cj 26 (.bin .fdiv (.len (.sub (.l 84) (qS 2 0x6e69))) (qI 4)) [.b7 100 (qC 683 [.l 84,qI 12]),.b7 24 (.bin .add (qI 1) (qC 683 [.l 84,qI 55])),qH (.or [qE (.l 100) (qI 1),qE (.l 100) (qI 2)]) [.b7 24 (.sub (.ai [qI 8,qI 35,qI 36,qI 37,qI 39,qI 41,qI 45,qI 46,qI 47,qI 48,qI 53,qI 54,qI 55]) (.bin .mod (.l 24) (qI 13)))],qA (.l 107) (.ai [.l 100,.l 24,qC 683 [.l 84,qI 195]])],.mJ 104 (.comp [100,24,26] (.kU none (.bX 9) 728 [.lc 106,.lc 90,.l 100,.l 24,.l 26]) false (.l 107) none [90,106]),qH (.l 107) [.ex (.eL (.bX (.lc 106) 21) 25 [.ai [qG 6,qI 7]])],.b7 108 (.ite (.l 107) (.call (some true) (.bX 3) 501 []) (.lc 106)),qH (.or [.not (.call (some true) (.bX 4) 721 [.l 108,.lc 90]),.not (.call (some true) (.bX 5) 716 [.l 108,.lc 90])]) [qR (.c (.bool false))],.cj 26 (qI 3) [qH (.not (.call none (.bX 6) 754 [.l 108,.lc 90,.bin .add (qI 1) (.bin .mod (.bin .add (.bin .add (qI 25) (.bin .mul (qI 13) (.l 26))) (qC 683 [.l 84,qI 55])) (qI 55))])) [qR (.c (.bool false))]],.mJ 103 (.comp [100,24,26] (.call none (.bX 10) 749 [.lc 90,.l 100,.l 24,.l 26]) false (.l 107) none [90]),qR (.and [qE (.l 104) (.l 103),.or [.not (.l 107),.call none (.bX 11) 716 [.lc 106,.lc 90]]])]⟩
noncomputable def RK:List (Nat×MF):=[(62,⟨[5],[],[.a_ (.l 5) 6 (.lst []),.a_ (.l 5) 7 (.dct []),.a_ (.l 5) 8 (.lst []),.a_ (.l 5) 9 (.lst []),.a_ (.l 5) 10 (.lst []),.cj 11 (qG 16) [.b7 12 (.ai [qG 1,.l 11]),qA (qL 5 6) (.l 12),.cS (qL 5 7) (.l 12) (.l 11),qA (qL 5 8) (qI 1),qA (qL 5 9) (qI 1),qA (qL 5 10) (qI 0)]]⟩),(69,⟨[5,13],[],[qH (.or [.cmp .lt (.l 13) (qI 0),.cmp .ge (.l 13) (.len (qL 5 6))]) [.cu [qS 6 0x7265626d756e,.l 13]],qR (.sub (qL 5 6) (.l 13))]⟩),(76,⟨[5,12],[],[.b7 14 (.bm (qL 5 7) .get [.l 12,.neg (qI 1)]),qH (.cmp .ge (.l 14) (qI 0)) [qR (.l 14)],.ex (qC 111 [.l 5,.l 12]),.b7 15 (qI 1),.b7 16 (qI 1),.b7 17 (qI 0),qH (.or [qE (.sub (.l 12) (qI 0)) (qG 6),qE (.sub (.l 12) (qI 0)) (qG 7)]) [.b7 17 (qI 1)],.b7 18 (qC 97 [.sub (.l 12) (qI 0)]),.forL 19 (qC 90 [.l 12]) [qH (.cmp .gt (.bin .add (.sub (qL 5 8) (.l 19)) (.l 18)) (.l 15)) [.b7 15 (.bin .add (.sub (qL 5 8) (.l 19)) (.l 18))],.aug 16 .add (.sub (qL 5 9) (.l 19)),qH (qE (.sub (qL 5 10) (.l 19)) (qI 1)) [.b7 17 (qI 1)]],qH (.cmp .gt (.l 15) (qG 24)) [.cu [qS 5 0x6874706564,.l 15]],qH (.cmp .gt (.l 16) (qG 4096)) [.cu [qS 5 0x656772616c,.l 16]],.b7 13 (.len (qL 5 6)),qA (qL 5 6) (.l 12),.cS (qL 5 7) (.l 12) (.l 13),qA (qL 5 8) (.l 15),qA (qL 5 9) (.l 16),qA (qL 5 10) (.l 17),qR (.l 13)]⟩),(90,⟨[12],[],[.b7 20 (.sub (.l 12) (qI 0)),qH (.or [qE (.l 20) (qG 2),qE (.l 20) (qG 3)]) [qR (.sub (.l 12) (qI 2))],qH (.or [qE (.l 20) (qG 4),qE (.l 20) (qG 5),qE (.l 20) (qG 8),qE (.l 20) (qG 9),qE (.l 20) (qG 11)]) [qR (.ai [.sub (.l 12) (qI 1)])],qH (qE (.l 20) (qG 10)) [qR (.bin .add (.ai [.sub (.l 12) (qI 1)]) (.sub (.l 12) (qI 3)))],qR (.ai [])]⟩),(97,⟨[20],[],[qH (.or [qE (.l 20) (qG 2),qE (.l 20) (qG 3),qE (.l 20) (qG 4)]) [qR (qI 1)],qR (qI 0)]⟩),(104,⟨[20],[],[qH (.or [qE (.l 20) (qG 2),qE (.l 20) (qG 3)]) [qR (qI 3)],qH (qE (.l 20) (qG 10)) [qR (qI 4)],qR (qI 2)]⟩),(111,⟨[21,12],[],[qH (.or [qE (.len (.l 12)) (qI 0),.cmp .le (.sub (.l 12) (qI 0)) (qG 1),.cmp .gt (.sub (.l 12) (qI 0)) (qG 11)]) [.cu [qS 4 0x74726f73,qI 0]],.b7 20 (.sub (.l 12) (qI 0)),qH (.cmp .ne (.len (.l 12)) (qC 104 [.l 20])) [.cu [qS 6 0x6874676e656c,.l 20]],.forL 19 (qC 90 [.l 12]) [.ex (.eL (.l 21) 12 [.l 19])],.iff (.or [qE (.l 20) (qG 2),qE (.l 20) (qG 3)]) [.ex (qC 118 [.l 21,.l 12])] [.iff (.or [qE (.l 20) (qG 6),qE (.l 20) (qG 7)]) [qH (.cmp .lt (.sub (.l 12) (qI 1)) (qI 0)) [.cu [qS 5 0x6563616c70,.sub (.l 12) (qI 1)]]] [.iff (qE (.l 20) (qG 10)) [qH (.or [.not (qC 132 [.l 21,.sub (.l 12) (qI 1)]),.cmp .lt (.sub (.l 12) (qI 2)) (qI 0)]) [.cu [qS 6 0x646f6874656d,.sub (.l 12) (qI 2)]],.ex (qC 125 [.l 21,.sub (.l 12) (qI 3)])] [.iff (qE (.l 20) (qG 8)) [qH (.not (.or [qC 195 [.l 21,.sub (.l 12) (qI 1)],qC 202 [.l 21,.sub (.l 12) (qI 1)]])) [.cu [qS 5 0x6465786f62,.sub (.l 12) (qI 1)]]] [qH (.not (qC 132 [.l 21,.sub (.l 12) (qI 1)])) [.cu [qS 5 0x72656e6e69,.sub (.l 12) (qI 1)]]]]]]]⟩),(118,⟨[21,12],[],[qH (.or [.cmp .le (.sub (.l 12) (qI 1)) (qI 0),.cmp .yq (.sub (.l 12) (qI 1)) (.g (.fn 48))]) [.cu [qS 5 0x64656d616e,.sub (.l 12) (qI 1)]],.ex (qC 125 [.l 21,.sub (.l 12) (qI 2)])]⟩),(125,⟨[21,22],[],[.forL 23 (.l 22) [qH (.not (qC 132 [.l 21,.l 23])) [.cu [qS 8 0x746e656d75677261,.l 23]]]]⟩),(132,⟨[21,13],[],[qH (.or [qE (.l 13) (qG 0),qE (.l 13) (qG 14)]) [qR (.c (.bool false))],.b7 20 (.sub (.eL (.l 21) 12 [.l 13]) (qI 0)),qR (.or [.cmp .le (.l 20) (qG 4),qE (.l 20) (qG 6),qE (.l 20) (qG 7)])]⟩),(139,⟨[21,24,22],[],[qH (.cmp .yq (.l 24) (.g (.fn 48))) [qR (qC 153 [.l 24,.l 22])],qR (.eL (.l 21) 25 [.ai [qG 2,.l 24,.l 22]])]⟩),(146,⟨[21,24,22],[],[qH (.cmp .yq (.l 24) (.g (.fn 48))) [qR (qC 153 [.l 24,.l 22])],qR (.eL (.l 21) 25 [.ai [qG 3,.l 24,.l 22]])]⟩),(153,⟨[24,22],[],[qH (.cmp .gt (.len (.l 22)) (qI 0)) [.cu [qS 8 0x746e656d75677261,.l 24]],qR (.sub (.g (.fn 48)) (.l 24))]⟩),(160,⟨[21,26],[],[qR (.eL (.l 21) 25 [.ai [qG 6,.l 26]])]⟩),(167,⟨[21,13],[],[qR (.sub (.eL (.l 21) 12 [.l 13]) (qI 0))]⟩),(174,⟨[21,13],[],[.bad]⟩),(181,⟨[21,13],[],[.b7 12 (.eL (.l 21) 12 [.l 13]),qH (.or [qE (.sub (.l 12) (qI 0)) (qG 2),qE (.sub (.l 12) (qI 0)) (qG 3)]) [qR (.sub (.l 12) (qI 1))],qH (qE (.sub (.l 12) (qI 0)) (qG 1)) [qR (.bm .bad .get [.l 13,qI 0])],qH (qE (.sub (.l 12) (qI 0)) (qG 4)) [qR (qG 5)],qR (qI 0)]⟩),(188,⟨[21,13],[],[.b7 12 (.eL (.l 21) 12 [.l 13]),qH (.or [qE (.sub (.l 12) (qI 0)) (qG 2),qE (.sub (.l 12) (qI 0)) (qG 3)]) [qR (.sub (.l 12) (qI 2))],qR (.ai [])]⟩),(195,⟨[21,13],[],[qH (.and [.cmp .le (qG 1) (.l 13),.cmp .le (.l 13) (qG 11)]) [qR (.c (.bool true))],qR (qE (.sub (.eL (.l 21) 12 [.l 13]) (qI 0)) (qG 3))]⟩),(202,⟨[21,13],[],[.b7 20 (.sub (.eL (.l 21) 12 [.l 13]) (qI 0)),qR (.or [qE (.l 20) (qG 6),qE (.l 20) (qG 7)])]⟩),(209,⟨[21,13,27,28],[],[.ex (.eL (.l 21) 12 [.l 13]),qH (qE (.sub (qL 21 10) (.l 13)) (qI 0)) [qR (.l 13)],qR .bad]⟩),(417,⟨[5,24,29,20,30,31,32,33],[],[.a_ (.l 5) 24 (.l 24),.a_ (.l 5) 29 (.l 29),.a_ (.l 5) 20 (.l 20),.a_ (.l 5) 30 (.l 30),.a_ (.l 5) 31 (.l 31),.a_ (.l 5) 34 (.lst []),.a_ (.l 5) 32 (.lst []),.a_ (.l 5) 35 (.lst []),.a_ (.l 5) 36 (.lst []),.forL 37 (.l 32) [qA (qL 5 32) (.l 37),qA (qL 5 35) (qG 0),qA (qL 5 36) (.ai [qI 0,.ai []])],.a_ (.l 5) 38 (.lst []),.a_ (.l 5) 39 (.lst []),.a_ (.l 5) 33 (.l 33),.a_ (.l 5) 40 (qI 0),.a_ (.l 5) 41 (.neg (qI 1)),.a_ (.l 5) 42 (.lst []),.a_ (.l 5) 43 (.lst []),.a_ (.l 5) 44 (.lst []),.a_ (.l 5) 45 (qI 0),.a_ (.l 5) 46 (qI 0)]⟩),(438,⟨[5,47,48,29,49,50,30],[],[.a_ (.l 5) 47 (.l 47),.a_ (.l 5) 48 (.l 48),.a_ (.l 5) 29 (.l 29),.a_ (.l 5) 49 (.l 49),.a_ (.l 5) 50 (.l 50),.a_ (.l 5) 30 (.l 30),.a_ (.l 5) 51 (.c .none)]⟩),(459,⟨[5,52,48,29,50,30,53,32],[],[.a_ (.l 5) 52 (.l 52),.a_ (.l 5) 48 (.l 48),.a_ (.l 5) 29 (.l 29),.a_ (.l 5) 50 (.l 50),.a_ (.l 5) 30 (.l 30),.a_ (.l 5) 54 (qI 0),.a_ (.l 5) 55 (.lst []),.a_ (.l 5) 56 (.lst []),.a_ (.l 5) 53 (.l 53),.a_ (.l 5) 32 (.tupleOf (.l 32)),.a_ (.l 5) 57 (qC 494 [.len (.l 32)]),.a_ (.l 5) 58 (.bin .mul (.ai [qI 0]) (.len (.l 32))),.a_ (.l 5) 59 (.c .none),.a_ (.l 5) 60 (qI 0)]⟩),(480,⟨[5],[],[.a_ (.l 5) 21 (.new 79 []),.a_ (.l 5) 61 (.lst [.c .none]),.a_ (.l 5) 62 (.lst [.c .none]),.a_ (.l 5) 39 (.lst [.c .none]),.a_ (.l 5) 63 (.dct []),.a_ (.l 5) 64 (.lst []),.a_ (.l 5) 65 (qI 0)]⟩),(494,⟨[4],[],[.b7 66 (.lst []),.cj 67 (.l 4) [qA (.l 66) (.bin .add (qS 1 0x70) .bad)],qR (.tupleOf (.l 66))]⟩),(501,⟨[],[],[.b7 68 (.new 483 []),qA (qL 68 64) (qS 4 0x65726f63),.a_ (.l 68) 61 (.bin .mul (.lst [.c .none]) (.bin .add (qG 63) (qI 1))),.a_ (.l 68) 62 (.bin .mul (.lst [.c .none]) (.bin .add (qG 63) (qI 1))),.a_ (.l 68) 39 (.bin .mul (.lst [.c .none]) (.bin .add (qG 255) (qI 1))),.forL 12 (.g rF) [.ex (qC 508 [.l 68,.l 12])],.ex (qC 543 [.l 68,qG 8,qI 0,qG 2,.ai []]),qR (.l 68)]⟩),(508,⟨[68,12],[],[.b7 31 (.neg (qI 1)),qH (.cmp .gt (.sub (.l 12) (qI 4)) (qI 0)) [.b7 31 (qC 139 [qL 68 21,.sub (.l 12) (qI 4),.ai []])],.b7 69 (.new 420 [.sub (.l 12) (qI 0),.sub (.l 12) (qI 1),.sub (.l 12) (qI 2),.sub (.l 12) (qI 3),.l 31,.sub (.l 12) (qI 5),qI 0]),.cj 67 (.len (.sub (.l 12) (qI 6))) [.cS (qL 69 35) (.l 67) (.sub (.sub (.l 12) (qI 6)) (.l 67))],.cS (qL 68 61) (.sub (.l 12) (qI 0)) (.l 69),.cS (qL 68 63) (.ai [qI 0,.sub (.l 12) (qI 1),.len (.sub (.l 12) (qI 5))]) (.sub (.l 12) (qI 0))]⟩),(515,⟨[68,29],[],[qA (qL 68 64) (.l 29),qR (.bin .sub (.len (qL 68 64)) (qI 1))]⟩),(522,⟨[68,20],[],[qH (qE (.l 20) (qG 2)) [qR (qC 139 [qL 68 21,qG 2,.ai []])],qH (qE (.l 20) (qG 5)) [qR (qC 139 [qL 68 21,qG 3,.ai []])],qH (qE (.l 20) (qG 4)) [qR (qC 139 [qL 68 21,qG 6,.ai []])],qR (.neg (qI 1))]⟩),(529,⟨[20,30],[],[qH (qE (.l 20) (qG 3)) [qR (.bin .bor (.l 30) (qG 1))],qH (qE (.l 20) (qG 1)) [qR (.l 30)],qR (.bin .bor (.l 30) (qG 2))]⟩),(536,⟨[68,33,29,20,30,31,32],[],[qH (.cmp .lt (.l 31) (qI 0)) [.b7 31 (qC 522 [.l 68,.l 20])],.b7 24 (.len (qL 68 61)),qA (qL 68 61) (.new 420 [.l 24,.l 29,.l 20,qC 529 [.l 20,.l 30],.l 31,.l 32,.l 33]),.b7 70 (.ai [.l 33,.l 29,.len (.l 32)]),qH (.cmp .eU (.l 70) (qL 68 63)) [.cS (qL 68 63) (.l 70) (.l 24)],qR (.l 24)]⟩),(543,⟨[68,24,26,30,71],[],[.cS (.bX (.sub (qL 68 61) (.l 24)) 36) (.l 26) (.ai [.l 30,.l 71])]⟩),(550,⟨[68,24,26,72],[],[.cS (.bX (.sub (qL 68 61) (.l 24)) 35) (.l 26) (.l 72)]⟩),(557,⟨[68,24,49],[],[.b7 73 (.sub (qL 68 61) (.l 24)),qH (.cmp .eU (.l 49) (qL 73 34)) [qA (qL 73 34) (.l 49)]]⟩),(564,⟨[68,24,29,49,50,30],[],[.b7 73 (.sub (qL 68 61) (.l 24)),.b7 47 (.len (qL 68 62)),qA (qL 68 62) (.new 441 [.l 47,.l 24,.l 29,.l 49,.l 50,.l 30]),qA (qL 73 38) (.l 47),qR (.l 47)]⟩),(571,⟨[68,47,24,29,49,50,30],[],[qH (.or [.cmp .le (.l 47) (qI 0),.cmp .gt (.l 47) (qG 63)]) [.cu [qS 5 0x646c656966,.l 47]],.b7 74 (.sub (qL 68 62) (.l 47)),.iff (.cmp .is (.l 74) (.c .none)) [qA (.bX (.sub (qL 68 61) (.l 24)) 38) (.l 47)] [qH (.cmp .ne (qL 74 48) (.l 24)) [.cu [qS 5 0x646c656966,.l 47]]],.cS (qL 68 62) (.l 47) (.new 441 [.l 47,.l 24,.l 29,.l 49,.l 50,.l 30]),qR (.l 47)]⟩),(578,⟨[30],[],[qH (.and [.cmp .ne (.bin .band (.l 30) (.bin .add (qG 32) (qG 64))) (qI 0),.cmp .ne (.bin .band (.l 30) (qG 128)) (qI 0)]) [qR (.bin .sub (.l 30) (qG 128))],qR (.l 30)]⟩),(585,⟨[68,24,29,50,30,53,32],[],[.b7 73 (.sub (qL 68 61) (.l 24)),.b7 52 (.len (qL 68 39)),qA (qL 68 39) (.new 462 [.l 52,.l 24,.l 29,.l 50,qC 578 [.l 30],.l 53,.l 32]),qA (qL 73 39) (.l 52),.ex (qC 599 [.l 68,.l 52]),qR (.l 52)]⟩),(592,⟨[68,52,24,29,50,30,53,32],[],[qH (.or [.cmp .le (.l 52) (qI 0),.cmp .gt (.l 52) (qG 255)]) [.cu [qS 6 0x646f6874656d,.l 52]],.b7 74 (.sub (qL 68 39) (.l 52)),.iff (.cmp .is (.l 74) (.c .none)) [qA (.bX (.sub (qL 68 61) (.l 24)) 39) (.l 52)] [qH (.cmp .ne (qL 74 48) (.l 24)) [.cu [qS 6 0x646f6874656d,.l 52]]],.cS (qL 68 39) (.l 52) (.new 462 [.l 52,.l 24,.l 29,.l 50,qC 578 [.l 30],.l 53,.l 32]),.b7 73 (.sub (qL 68 61) (.l 24)),qH (qE (qL 73 40) (.l 52)) [.a_ (.l 73) 40 (qI 0)],qH (qE (qL 73 45) (.l 52)) [.a_ (.l 73) 45 (qI 0)],.ex (qC 599 [.l 68,.l 52]),qR (.l 52)]⟩),(599,⟨[68,52],[],[.b7 75 (.sub (qL 68 39) (.l 52)),.b7 73 (.sub (qL 68 61) (qL 75 48)),qH (.cmp .ne (.bin .band (qL 75 30) (qG 64)) (qI 0)) [.a_ (.l 73) 40 (.l 52)],qH (.and [qE (qL 75 29) (qS 8 0x657a696c616e6946),qC 676 [.l 75],qE (.len (qL 75 32)) (qI 0),qE (qL 75 53) (qG 0)]) [qH (.or [qE (qL 75 48) (qG 1),qE (.bin .band (qL 75 30) (qG 4)) (qI 0)]) [.a_ (.l 73) 45 (.l 52)]]]⟩),(606,⟨[6,12],[],[qH (.cmp .eU (.l 12) (.l 6)) [qA (.l 6) (.l 12)]]⟩),(613,⟨[68,24,76,77,78],[],[.ex (qC 606 [.bX (.sub (qL 68 61) (.l 24)) 42,.ai [.l 76,.l 77,.l 78]])]⟩),(620,⟨[68,24,29,49,79,80,81],[],[.ex (qC 606 [.bX (.sub (qL 68 61) (.l 24)) 43,.ai [.l 29,.l 49,.l 79,.l 80,.l 81]])]⟩),(627,⟨[68,24,29,49,82,83],[],[.ex (qC 606 [.bX (.sub (qL 68 61) (.l 24)) 44,.ai [.l 29,.l 49,.l 82,.l 83]])]⟩),(634,fV),(641,⟨[68,24,22],[],[.b7 20 (.bX (.sub (qL 68 61) (.l 24)) 20),qH (.or [qE (.l 20) (qG 2),qE (.l 20) (qG 5)]) [qR (qC 146 [qL 68 21,.l 24,.l 22])],qR (qC 139 [qL 68 21,.l 24,.l 22])]⟩),(648,⟨[68,13],[],[.b7 24 (qC 181 [qL 68 21,.l 13]),qH (.or [.cmp .le (.l 24) (qI 0),.cmp .ge (.l 24) (.len (qL 68 61))]) [qR (.c .none)],qR (.sub (qL 68 61) (.l 24))]⟩),(655,⟨[68,29,4],[],[.b7 33 (.bin .sub (.len (qL 68 64)) (qI 1)),.yv (.cmp .ge (.l 33) (qI 0)) [.b7 24 (.bm (qL 68 63) .get [.ai [.l 33,.l 29,.l 4],qI 0]),qH (.cmp .gt (.l 24) (qI 0)) [qR (.l 24)],.aug 33 .sub (qI 1)],qR (qI 0)]⟩),(662,⟨[68,13],[],[.b7 21 (qL 68 21),qH (.cmp .lt (.l 13) (qG 16)) [qR (qC 669 [.l 68,.l 13])],.b7 20 (qC 167 [.l 21,.l 13]),qH (qE (.l 20) (qG 4)) [qR (qC 139 [.l 21,qG 5,.ai []])],qH (qE (.l 20) (qG 8)) [qR (qC 662 [.l 68,qC 174 [.l 21,.l 13]])],.b7 73 (qC 648 [.l 68,.l 13]),qH (.cmp .is (.l 73) (.c .none)) [qR (.neg (qI 1))],qH (qE (.l 20) (qG 3)) [qH (qE (qL 73 20) (qG 5)) [qR (qC 139 [.l 21,qG 3,.ai []])],qR (qC 139 [.l 21,qG 2,.ai []])],qH (.or [.cmp .lt (qL 73 31) (qI 0),qE (qL 73 20) (qG 3)]) [qR (.neg (qI 1))],qR (qC 209 [.l 21,qL 73 31,qC 188 [.l 21,.l 13],.ai []])]⟩),(669,⟨[68,13],[],[qH (.and [.cmp .le (qG 1) (.l 13),.cmp .le (.l 13) (qG 11)]) [qR (qC 139 [qL 68 21,qG 2,.ai []])],qH (qE (.l 13) (qG 13)) [qR (qG 12)],qR (.neg (qI 1))]⟩),(676,⟨[75],[],[qR (.cmp .ne (.bin .band (qL 75 30) (qG 2)) (qI 0))]⟩),(683,⟨[84,85],[],[.w7 (.l 84) (qS 2 0x7461) .add (qI 1),qR (.ite (.cmp .le (.sub (.l 84) (qS 2 0x7461)) (.len (.sub (.l 84) (qS 2 0x6e69)))) (.bin .mod (.sub (.sub (.l 84) (qS 2 0x6e69)) (.bin .sub (.sub (.l 84) (qS 2 0x7461)) (qI 1))) (.l 85)) (qI 0))]⟩),(690,⟨[],[],[qR (.ai (JE.map fun p=>qS p.1 p.2))]⟩),(697,⟨[24,29,20,30,31,86],[],[.b7 12 (.dct [((qS 3 0x646974),(.l 24)),((qS 4 0x656d616e),(.l 29)),((qS 4 0x74726f73),(.l 20)),((qS 5 0x7367616c66),(.l 30)),((qS 4 0x65736162),(.l 31)),((qS 3 0x6d7361),(qI 0)),((qS 5 0x726f746363),(qI 0)),((qS 5 0x7265646e75),(.neg (qI 1)))]),.cS (.l 12) (qS 9 0x726573696c616e6966) (qI 0),.cS (.l 12) (qS 4 0x656d6f68) (qI 0),.forL 37 (.ai [qS 6 0x736563616669,qS 6 0x73646c656966,qS 7 0x73646f6874656d,qS 5 0x736c706d69,qS 5 0x73706f7270,qS 6 0x73746e657665,qS 6 0x736d61726170,qS 9 0x7365636e6169726176,qS 6 0x73646e756f62]) [.cS (.l 12) (.l 37) (.lst [])],.forL 87 (.l 86) [.b7 88 (.ite (.cmp .yq (.sub (.l 87) (qI 0)) (qS 3 0x5e2d2b)) (.sub (.l 87) (qI 0)) (qS 0 0)),qA (.sub (.l 12) (qS 6 0x736d61726170)) (.ite (.l 88) (.qT (.l 87) (qI 1)) (.l 87)),qA (.sub (.l 12) (qS 9 0x7365636e6169726176)) (.bm (.dct [((qS 1 0x2b),(qI 1)),((qS 1 0x2d),(qI 2))]) .get [.l 88,qI 0]),qA (.sub (.l 12) (qS 6 0x73646e756f62)) (.ai [.ite (qE (.l 88) (qS 1 0x5e)) (qI 2) (qI 0),.ai []])],qR (.l 12)]⟩),(704,⟨[],[],[.b7 89 (.dct [((qS 5 0x7373616c63),(.ai [qG 1,qI 0,qS 6 0x7463656a624f])),((qS 8 0x7463617274736261),(.ai [qG 1,qI 1,qS 6 0x7463656a624f])),((qS 6 0x64656c616573),(.ai [qG 1,qI 2,qS 6 0x7463656a624f])),((qS 6 0x636974617473),(.ai [qG 1,qI 3,qS 6 0x7463656a624f])),((qS 6 0x746375727473),(.ai [qG 2,qI 2,qS 9 0x6570795465756c6156])),((qS 9 0x656361667265746e69),(.ai [qG 3,qI 1,qS 0 0])),((qS 8 0x65746167656c6564),(.ai [qG 4,qI 2,qS 8 0x65746167656c6544]))]),.b7 90 (.dct [((qS 5 0x7365707974),(.lst [.c .none])),((qS 5 0x73656d616e),(.dct [])),((qS 4 0x736d7361),(.lst [qS 4 0x65726f63])),((qS 6 0x73646c656966),(.bin .mul (.lst [qI 0]) (qI 64))),((qS 7 0x73646f6874656d),(.bin .mul (.lst [qI 0]) (qI 256))),((qS 5 0x7972746e65),(qI 0))]),.forL 91 (qC 690 []) [.b7 92 (.bm (.l 91) .split [qS 1 0x20]),.wY [20,30,93] (.sub (.l 89) (.sub (.l 92) (qI 0))),.b7 94 (.bm (.sub (.l 92) (qI 1)) .split [qS 1 0x3a]),.b7 95 (.ite (.cmp .gt (.len (.l 94)) (qI 1)) (.sub (.l 94) (qI 1)) (.l 93)),.b7 31 (.ai []),qH (.l 95) [.b7 31 (.ai [qG 2,.sub (.sub (.l 90) (qS 5 0x73656d616e)) (.ai [qI 0,.l 95,qI 0]),.ai []])],qH (qE (.l 95) (qS 6 0x7463656a624f)) [.b7 31 (.ai [qG 1,qG 12])],.b7 24 (.len (.sub (.l 90) (qS 5 0x7365707974))),qA (.sub (.l 90) (qS 5 0x7365707974)) (qC 697 [.l 24,.sub (.l 94) (qI 0),.l 20,.l 30,.l 31,.qT (.l 92) (qI 2)]),.cS (.sub (.l 90) (qS 5 0x73656d616e)) (.ai [qI 0,.sub (.l 94) (qI 0),.bin .sub (.len (.l 92)) (qI 2)]) (.l 24)],.ex (.bm (.sub (.l 90) (qS 5 0x7365707974)) .extend [.bin .mul (.lst [.c .none]) (qI 8)]),qR (.l 90)]⟩),(711,⟨[68,73],[],[qH (.cmp .is (.l 73) (.c .none)) [qR (.c .none)],qR (.dct [((qS 3 0x646974),(qL 73 24)),((qS 4 0x656d616e),(qL 73 29)),((qS 4 0x74726f73),(qL 73 20)),((qS 5 0x7367616c66),(qL 73 30)),((qS 3 0x6d7361),(qL 73 33)),((qS 5 0x726f746363),(qL 73 40)),((qS 4 0x656d6f68),(qL 73 46)),((qS 4 0x65736162),(.ite (.cmp .ge (qL 73 31) (qI 0)) (.eL (qL 68 21) 12 [qL 73 31]) (.ai []))),((qS 5 0x7265646e75),(qL 73 41)),((qS 9 0x726573696c616e6966),(qL 73 45)),((qS 6 0x736563616669),(qL 73 34)),((qS 6 0x73646c656966),(qL 73 38)),((qS 7 0x73646f6874656d),(qL 73 39)),((qS 5 0x736c706d69),(qL 73 42)),((qS 5 0x73706f7270),(qL 73 43)),((qS 6 0x73746e657665),(qL 73 44)),((qS 6 0x736d61726170),(qL 73 32)),((qS 9 0x7365636e6169726176),(qL 73 35)),((qS 6 0x73646e756f62),(qL 73 36))])]⟩),(716,fC),(721,⟨[68,90],[99,6],[.mJ 98 (.comp [12] (.sub (.l 12) (qS 4 0x65736162)) false (.sub (.l 90) (qS 5 0x7365707974)) (some (.cmp .vN (.l 12) (.c .none))) []),.kc 6 (.comp [12] (.l 12) false (.l 98) (some (qE (.len (.l 12)) (qI 3))) []),.kc 99 (.qT (.bX (qL 68 21) 6) (qI 16)),qH (.comp [12] (.l 12) false (.lc 99) (some (.or [.cmp .eU (.l 12) (.lc 6),.cmp .ne (.bm (.lc 99) .count [.l 12]) (qI 1)])) [99,6]) [qR (.c (.bool false))],qR (qE (.comp [12] (.l 12) false (.lc 6) (some (.cmp .eU (.l 12) (.lc 99))) [99]) (.lst []))]⟩),(728,⟨[68,90,100,24,26],[],[qH (qE (.l 100) (qI 0)) [.ex (qC 557 [.l 68,.l 24,.sub (.ai [qG 7,qG 13]) (.bin .mod (.l 26) (qI 2))])],qH (qE (.l 100) (qI 1)) [.ex (qC 543 [.l 68,.l 24,qI 0,.bin .mod (.l 26) (qI 8),.ai [qG 7]])],qH (qE (.l 100) (qI 2)) [.ex (qC 550 [.l 68,.l 24,qI 0,.bin .mod (.l 26) (qI 3)])],qH (qE (.l 100) (qI 3)) [qR (qC 564 [.l 68,.l 24,qS 1 0x66,qG 7,qI 6,qI 0])],qH (qE (.l 100) (qI 4)) [qR (qC 585 [.l 68,.l 24,qS 6 0x726f7463632e,qI 1,.bin .add (qG 64) (qG 1),qG 0,.ai []])],qH (qE (.l 100) (qI 5)) [qR (qC 536 [.l 68,qI 0,.sub (.sub (.sub (.l 90) (qS 5 0x7365707974)) (.l 24)) (qS 4 0x656d616e),qG 2,qI 0,.neg (qI 1),.n_ (.lst [qS 1 0x41,qS 1 0x42,qS 1 0x43,qS 1 0x44]) (.bin .mod (.l 26) (qI 4))])],qH (qE (.l 100) (qI 6)) [qR (qC 515 [.l 68,qS 4 0x65726f6d])],qH (qE (.l 100) (qI 7)) [.ex (qC 620 [.l 68,.l 24,qS 1 0x50,qG 7,.bin .mod (.l 26) (qI 2),qI 0,.ai []])],qH (qE (.l 100) (qI 8)) [.ex (qC 627 [.l 68,.l 24,qS 1 0x45,qG 13,.bin .mod (.l 26) (qI 2),qI 0])],qH (qE (.l 100) (qI 9)) [.ex (qC 613 [.l 68,.l 24,.bin .mod (.l 26) (qI 2),qG 12,qI 1])],.yg [qH (qE (.l 100) (qI 10)) [qR (qC 571 [.l 68,.bin .mod (.l 26) (qI 65),.l 24,qS 1 0x67,qG 7,qI 6,qI 0])],qH (qE (.l 100) (qI 11)) [qR (qC 592 [.l 68,.bin .add (qI 254) (.bin .mod (.l 26) (qI 3)),.l 24,qS 8 0x657a696c616e6946,qI 4,qG 2,qG 0,.ai []])]] [qR (.neg (qI 1))],qR (qI 0)]⟩),(735,⟨[90,37,101,24],[],[qH (.or [qE (.l 101) (qI 0),.cmp .ge (.l 101) (.ite (qE (.l 37) (qS 6 0x73646c656966)) (qI 64) (qI 256))]) [qR (.neg (qI 1))],qH (.cmp .eU (.sub (.sub (.l 90) (.l 37)) (.l 101)) (.ai [qI 0,.l 24])) [qR (.neg (qI 1))],qH (qE (.sub (.sub (.l 90) (.l 37)) (.l 101)) (qI 0)) [qA (.sub (.sub (.sub (.l 90) (qS 5 0x7365707974)) (.l 24)) (.l 37)) (.l 101)],.cS (.sub (.l 90) (.l 37)) (.l 101) (.l 24),qR (.l 101)]⟩),(742,⟨[6,12],[],[qH (.cmp .eU (.l 12) (.l 6)) [qA (.l 6) (.l 12)]]⟩),(749,⟨[90,100,24,26],[],[.b7 12 (.sub (.sub (.l 90) (qS 5 0x7365707974)) (.l 24)),qH (qE (.l 100) (qI 0)) [.ex (qC 742 [.sub (.l 12) (qS 6 0x736563616669),.sub (.ai [qG 7,qG 13]) (.bin .mod (.l 26) (qI 2))])],qH (qE (.l 100) (qI 1)) [.cS (.sub (.l 12) (qS 6 0x73646e756f62)) (qI 0) (.ai [.bin .mod (.l 26) (qI 8),.ai [qG 7]])],qH (qE (.l 100) (qI 2)) [.cS (.sub (.l 12) (qS 9 0x7365636e6169726176)) (qI 0) (.bin .mod (.l 26) (qI 3))],qH (.or [qE (.l 100) (qI 3),qE (.l 100) (qI 4)]) [.b7 37 (.sub (.ai [qS 6 0x73646c656966,qS 7 0x73646f6874656d]) (.bin .sub (.l 100) (qI 3))),qA (.sub (.l 90) (.l 37)) (.l 24),qA (.sub (.l 12) (.l 37)) (.bin .sub (.len (.sub (.l 90) (.l 37))) (qI 1)),qH (qE (.l 100) (qI 4)) [.cS (.l 12) (qS 5 0x726f746363) (.sub (.sub (.l 12) (qS 7 0x73646f6874656d)) (.neg (qI 1)))],qR (.sub (.sub (.l 12) (.l 37)) (.neg (qI 1)))],qH (qE (.l 100) (qI 5)) [.b7 86 (.n_ (.lst [qS 1 0x41,qS 1 0x42,qS 1 0x43,qS 1 0x44]) (.bin .mod (.l 26) (qI 4))),.b7 102 (.len (.sub (.l 90) (qS 5 0x7365707974))),qA (.sub (.l 90) (qS 5 0x7365707974)) (qC 697 [.l 102,.sub (.l 12) (qS 4 0x656d616e),qG 2,qI 2,.ai [qG 2,qI 2,.ai []],.l 86]),qH (.cmp .eU (.ai [qI 0,.sub (.l 12) (qS 4 0x656d616e),.len (.l 86)]) (.sub (.l 90) (qS 5 0x73656d616e))) [.cS (.sub (.l 90) (qS 5 0x73656d616e)) (.ai [qI 0,.sub (.l 12) (qS 4 0x656d616e),.len (.l 86)]) (.l 102)],qR (.l 102)],qH (qE (.l 100) (qI 6)) [qA (.sub (.l 90) (qS 4 0x736d7361)) (qS 4 0x65726f6d),qR (.bin .sub (.len (.sub (.l 90) (qS 4 0x736d7361))) (qI 1))],qH (qE (.l 100) (qI 7)) [.ex (qC 742 [.sub (.l 12) (qS 5 0x73706f7270),.ai [qS 1 0x50,qG 7,.bin .mod (.l 26) (qI 2),qI 0,.ai []]])],qH (qE (.l 100) (qI 8)) [.ex (qC 742 [.sub (.l 12) (qS 6 0x73746e657665),.ai [qS 1 0x45,qG 13,.bin .mod (.l 26) (qI 2),qI 0]])],qH (qE (.l 100) (qI 9)) [.ex (qC 742 [.sub (.l 12) (qS 5 0x736c706d69),.ai [.bin .mod (.l 26) (qI 2),qG 12,qI 1]])],qH (qE (.l 100) (qI 10)) [qR (qC 735 [.l 90,qS 6 0x73646c656966,.bin .mod (.l 26) (qI 65),.l 24])],qH (qE (.l 100) (qI 11)) [.b7 101 (qC 735 [.l 90,qS 7 0x73646f6874656d,.bin .add (qI 254) (.bin .mod (.l 26) (qI 3)),.l 24]),qH (.cmp .gt (.l 101) (qI 0)) [.cS (.l 12) (qS 9 0x726573696c616e6966) (.l 101)],qR (.l 101)],qR (qI 0)]⟩),(754,kY)]
noncomputable def PG:Pg:=⟨RK,[(79,62),(420,417),(441,438),(462,459),(483,480)],[(79,[(12,69),(25,76)]),(420,[]),(441,[]),(462,[]),(483,[])],[(48,[(20,0),(9,1),(10,2),(11,3),(12,4),(13,5),(14,6),(15,7),(16,8),(17,9),(18,10),(19,11),(1,12),(4,13)])],[(79,[6,7,8,9,10]),(420,[24,29,20,30,31,34,32,35,36,38,39,33,40,41,42,43,44,45,46]),(441,[47,48,29,49,50,30,51]),(462,[52,48,29,50,30,54,55,56,53,32,57,58,59,60]),(483,[21,61,62,39,63,64,65])]⟩
noncomputable def j5:List Str:=[qN 6 0x646e65707061,qN 6 0x646e65747865,qN 3 0x746567,qN 5 0x74696c7073,qN 5 0x746e756f63,qN 4 0x666c6573,qN 4 0x73776f72,qN 5 0x7865646e69,qN 6 0x736874706564,qN 7 0x73746867696577,qN 5 0x736e65706f,qN 6 0x7265626d756e,qN 3 0x776f72,qN 1 0x6b,qN 5 0x646e756f66,qN 5 0x6874706564,qN 6 0x746867696577,qN 6 0x64656e65706f,qN 5 0x6c6576656c,qN 5 0x72656e6e69,qN 4 0x74726f73,qN 2 0x746b,qN 4 0x73677261,qN 3 0x677261,qN 3 0x646974,qN 3 0x747570,qN 1 0x69,qN 5 0x7367726174,qN 5 0x736772616d,qN 4 0x656d616e,qN 5 0x7367616c66,qN 4 0x65736162,qN 6 0x736d61726170,qN 3 0x6d7361,qN 6 0x736563616669,qN 9 0x7365636e6169726176,qN 6 0x73646e756f62,qN 4 0x64726f77,qN 6 0x73646c656966,qN 7 0x73646f6874656d,qN 5 0x726f746363,qN 5 0x7265646e75,qN 5 0x736c706d69,qN 5 0x73706f7270,qN 6 0x73746e657665,qN 9 0x726573696c616e6966,qN 4 0x656d6f68,qN 3 0x646966,qN 5 0x72656e776f,qN 4 0x646e696b,qN 6 0x737365636361,qN 5 0x65756c6176,qN 3 0x64696d,qN 3 0x746572,qN 4 0x6e65676e,qN 6 0x73656d616e67,qN 7 0x73646e756f6267,qN 6 0x73656d616e70,qN 6 0x7367616c6670,qN 4 0x79646f62,qN 6 0x65766974616e,qN 5 0x7365707974,qN 7 0x5f73646c656966,qN 5 0x73656d616e,qN 4 0x736d7361,qN 5 0x7972746e65,qN 3 0x74756f,qN 5 0x6563616c70,qN 5 0x65726f7473,qN 5 0x6c6c656873,qN 3 0x79656b,qN 5 0x73646e696b,qN 2 0x6176,qN 1 0x74,qN 3 0x646c6f,qN 1 0x6d,qN 8 0x64696d5f79646f62,qN 10 0x72656e776f5f6c636564,qN 8 0x64696d5f6c636564,qN 6 0x726574746567,qN 6 0x726574746573,qN 11 0x73646e696b5f7865646e69,qN 5 0x7265646461,qN 7 0x7265766f6d6572,qN 1 0x77,qN 1 0x6e,qN 5 0x7374726170,qN 4 0x74726170,qN 4 0x6e676973,qN 5 0x7365646f6d,qN 5 0x6c65646f6d,qN 4 0x656e696c,qN 5 0x7364726f77,qN 5 0x6c61757375,qN 4 0x72696170,qN 5 0x65766f6261,qN 4 0x6e656573,qN 1 0x66,qN 5 0x7365736162,qN 5 0x6e65766967,qN 2 0x706f,qN 2 0x7461,qN 3 0x77656e,qN 3 0x657564,qN 3 0x746f67,qN 6 0x747069726373,qN 3 0x656e6f,qN 7 0x7365676e616863,qN 3 0x6f7774]
theorem nof {P:Prop} (h:false=true):P:=(Bool.false_ne_true h).elim
theorem ie {a b:Nat} (h:Nat.beq a b=true):a=b:=Nat.eq_of_beq_eq_true h
theorem cK {a b:Nat}:Nat.beq a b=decide (a=b):=by
 by_cases h:a=b
 ·subst h;rw [Nat.beq_refl];simp
 ·rw [nU h];cases q:Nat.beq a b with
  |false=>rfl
  |true=>exact absurd (ie q) h
theorem blt_iff {m n:Nat}:Nat.blt m n=decide (m<n):=by
 by_cases h:m<n
 ·rw [gH h];exact Nat.ble_eq_true_of_le h
 ·rw [nU h];cases q:Nat.blt m n with
  |false=>rfl
  |true=>exact absurd (pG q) h
theorem dD {a b:Nat} (h:Nat.blt a b=true):a<b:=pG h
theorem jX {n:Nat} (h:small n=true):n≤5000:=pG h
theorem TC.get_eq {t:TC} {i:Nat} (ho:t.D5=false):t.get i=if i=0 then t.fv else if i%2=1 then t.fl.get (i/2) else t.fr.get (i/2 -1):=by
 cases t with
 |nil=>show none=ite _ none (ite _ none none);simp
 |node v l r=>
  show (match Nat.beq i 0 with|true=>v|false=>match Nat.beq (i%2) 1 with|true=>l.get (i/2)|false=>r.get (i/2 -1))=_;rw [cK,cK];by_cases h:i=0
  ·simp only [h,decide_true,if_true];rfl
  ·by_cases q:i%2=1<;>simp only [h,q,decide_true,decide_false,if_true,if_false]<;>rfl
 |aq=>exact nof ho.symm
theorem TC.AG {α:Type}:∀{f:Nat} {t:TC} {i:Nat} {c:Cell} {k:TC→α},TC.put f t i c k=k (TC.putL f t i c)
 |0,_,_,_,_=>rfl
 |f+1,t,i,c,k=>by
  show (match t.D5 with|true=>k (.aq i c t)|false=>match Nat.beq i 0 with|true=>k (.node (some c) t.fl t.fr)|false=>match Nat.beq (i%2) 1 with|true=>TC.put f t.fl (i/2) c fun l=>k (.node t.fv l t.fr)|false=>TC.put f t.fr (i/2 -1) c fun r=>k (.node t.fv t.fl r))=k (match t.D5 with|true=> .aq i c t|false=>match Nat.beq i 0 with|true=> .node (some c) t.fl t.fr|false=>match Nat.beq (i%2) 1 with|true=> .node t.fv (TC.putL f t.fl (i/2) c) t.fr|false=> .node t.fv t.fl (TC.putL f t.fr (i/2 -1) c));cases t.D5
  ·cases Nat.beq i 0
   ·cases Nat.beq (i%2) 1<;>exact TC.AG
   ·rfl
  ·rfl
theorem TC.ay {t:TC} {i j:Nat} {c:Cell}:(TC.aq i c t).get j=if j=i then some c else t.get j:=by show (match Nat.beq j i with|true=>some c|false=>t.get j)=_;rw [cK];by_cases h:j=i<;>simp [h]
theorem TC.zy {f:Nat}:∀{t:TC} {i j:Nat} {c:Cell},i<f→(TC.putL f t i c).get j=if j=i then some c else t.get j:=by
 induction f with
 |zero=>intro Z Z Z Z h;exact absurd h (Nat.not_lt_zero _)
 |succ f ih=>
  intro t i j c h;show (match t.D5 with|true=>TC.aq i c t|false=>match Nat.beq i 0 with|true=> .node (some c) t.fl t.fr|false=>match Nat.beq (i%2) 1 with|true=> .node t.fv (TC.putL f t.fl (i/2) c) t.fr|false=> .node t.fv t.fl (TC.putL f t.fr (i/2 -1) c)).get j=_;cases ho:t.D5 with
  |true=>exact TC.ay
  |false=>
  show (match Nat.beq i 0 with|true=>TC.node (some c) t.fl t.fr|false=>match Nat.beq (i%2) 1 with|true=> .node t.fv (TC.putL f t.fl (i/2) c) t.fr|false=> .node t.fv t.fl (TC.putL f t.fr (i/2 -1) c)).get j=_;rw [cK,cK,@TC.get_eq t j ho];by_cases G:i=0
  ·subst G
   rw [gH rfl,TC.get_eq rfl];by_cases D:j=0<;>simp only [D,if_true,if_false]<;>rfl
  ·rw [nU G]
   by_cases E:i%2=1
   ·rw [gH E,TC.get_eq rfl]
    show (if j=0 then t.fv else if j%2=1 then (TC.putL f t.fl (i/2) c).get (j/2) else t.fr.get (j/2 -1))=_;rw [ih (VQ E h)];by_cases D:j=i
    ·simp [D,G,E]
    ·simp only [D,if_false]
     by_cases C:j%2=1
     ·rw [aS (show ¬j/2=i/2 by exact VR E C D)]
     ·simp [C]
   ·rw [nU E,TC.get_eq rfl]
    show (if j=0 then t.fv else if j%2=1 then t.fl.get (j/2) else (TC.putL f t.fr (i/2 -1) c).get (j/2 -1))=_;rw [ih (VT h E G)];by_cases D:j=i
    ·simp [D,G,E]
    ·simp only [D,if_false]
     by_cases C:j%2=1
     ·simp [C]
     ·by_cases H:j=0
      ·simp [H]
      ·rw [aS (show ¬j/2 -1=i/2 -1 by exact VU E C G H D)]
theorem aH {α:Type}:∀{l:List α} {i:Nat},aL l i=l[i]?
 |[],_=>rfl
 |_::_,0=>rfl
 |_::l,i+1=>aH (l:=l)
theorem b6 {α:Type} {p:Nat×α} {l:List (Nat×α)} {x:Nat}:aF (p::l) x=if p.1=x then some p.2 else aF l x:=by show (match Nat.beq p.1 x with|true=>some p.2|false=>aF l x)=_;rw [cK];by_cases h:p.1=x<;>simp [h]
theorem er {α:Type} {x:Nat} {v:α}:∀{l:List (Nat×α)},aF l x=some v→(x,v)∈l
 |[],e=>by cases e
 |p::l,e=>by
  rw [b6] at e;split at e
  ·rename_i q;cases e;subst q;exact .head _
  ·exact .tail _ (er e)
theorem ni {x:Nat}:∀{l:List Nat},Ah l x=true→x∈l
 |[],e=>nof e
 |a::l,e=>by
  have e:(match Nat.beq a x with|true=>true|false=>Ah l x)=true:=e;rw [cK] at e;by_cases q:a=x
  ·subst q;exact .head _
  ·rw [nU q] at e;exact .tail _ (ni e)
noncomputable def aV {α:Type}:List (Nat×α)→Nat→α→List (Nat×α)
 |[],x,v=>[(x,v)]
 |p::l,x,v=>if p.1=x then (p.1,v)::l else p::aV l x v
theorem cU {α β:Type}:∀{l:List (Nat×α)} {x:Nat} {v:α} {k:List (Nat×α)→β},c_ l x v k=k (aV l x v)
 |[],_,_,_=>rfl
 |p::l,x,v,k=>by
  show (match Nat.beq p.1 x with|true=>k ((p.1,v)::l)|false=>c_ l x v fun l=>k (p::l))=_;rw [cK];show _=k (if p.1=x then (p.1,v)::l else p::aV l x v);by_cases h:p.1=x
  ·rw [gH h,bk h]
  ·rw [nU h,aS h];exact cU
theorem dG {α:Type} {x y:Nat} {v:α}:∀{l:List (Nat×α)},aF (aV l x v) y=if x=y then some v else aF l y
 |[]=>b6
 |p::l=>by
  show aF (if p.1=x then (p.1,v)::l else p::aV l x v) y=_;by_cases h:p.1=x
  ·rw [bk h,b6,b6,h]
   by_cases q:x=y<;>simp [q]
  ·rw [aS h,b6,b6,dG]
   by_cases q:p.1=y
   ·rw [bk q,aS (fun e=>h (q.trans e.symm)),bk q]
   ·simp [q]
theorem jL {α:Type} {n:Nat} {k:Nat→α}:kZ n k=k n:=by cases n<;>rfl
theorem jM {α:Type} {z:Bool} {n:Nat} {k:Nat→α}:ug z n k=k n:=by cases z;rfl;exact jL
theorem lU {α:Type} {z:Bool} {i:Int} {k:Int→α}:rP z i k=k i:=by
 cases z
 ·rfl
 ·cases i<;>exact jL (k:=fun n=>k _)
theorem lZ {α β L:Type} {f:α→(β→L)→L} {g:α→β} (h:∀a k,f a k=k (g a)):∀{l:List α} {k:List β→L},xK f l k=k (l.map g)
 |[],_=>rfl
 |a::l,k=>by show f a _=_;rw [h];exact lZ h
theorem qf {α β:Type} {z:Bool} {l:List α} {k:List α→β}:Ci z l k=k l:=by
 cases z
 ·rfl
 ·exact (lZ (g:=id) fun Z Z=>rfl).trans (by rw [List.map_id])
theorem rS {β:Type} {l:List Nat} {k:List Nat→β}:rR l k=k l:=(lZ (g:=id) fun Z Z=>jL).trans (by rw [List.map_id])
theorem uX {α β:Type}:∀{l r:List α} {k:List α→β},EB l r k=k (l++r)
 |[],_,_=>rfl
 |a::l,r,k=>uX (l:=l)
theorem yK {α β:Type} {z:Bool} {l r:List α} {k:List α→β}:app z l r k=k (l++r):=by cases z;rfl;exact uX
theorem l5 {α β:Type} {f:(α→β)→α→β} {g:α→α} (h:∀q a,f q a=q (g a)):∀{l:List α} {i:Nat} {k:List α→β},Ai l i f k=k (l.modify i g)
 |[],i,_=>by cases i<;>rfl
 |a::l,0,k=>h _ _
 |a::l,i+1,k=>l5 h (l:=l) (k:=fun l=>k (a::l))
theorem nk {α:Type} {v:α}:∀{l:List α} {i:Nat},(l.modify i fun Z=>v)=l.set i v
 |[],i=>by cases i<;>rfl
 |_::_,0=>rfl
 |a::l,i+1=>congrArg (a::·) (nk (l:=l) (i:=i))
theorem z9 {α β:Type} {z:Bool} {l:List α} {i:Nat} {v:α} {k:List α→β}:D8 z l i v k=k (l.set i v):=by
 cases z
 ·rfl
 ·exact (l5 (g:=fun Z=>v) fun Z Z=>rfl).trans (by rw [nk])
noncomputable def TC.qM (z:Bool) (f:Nat) (t:TC) (i:Nat) (c:Cell):TC:=match z with
 |true=>TC.putL f t i c
 |false=> .aq i c t
theorem TC.rU {z:Bool} {f:Nat} {t:TC} {i j:Nat} {c:Cell} (h:i<f):(TC.qM z f t i c).get j=if j=i then some c else t.get j:=by
 cases z
 ·exact TC.ay
 ·exact TC.zy h
theorem wm {β:Type} {z:Bool} {f:Nat} {t:TC} {i:Nat} {c:Cell} {k:TC→β}:Gk z f t i c k=k (TC.qM z f t i c):=by cases z;rfl;exact TC.AG
noncomputable def f_ (z:Bool) (σ:ah) (r k:Nat) (c:Cell):ah:=σ.modify r fun g=>⟨g.n,TC.qM z (k+1) g.t k c⟩
noncomputable def ez (z:Bool) (σ:ah) (r:Nat) (b:CB):ah:=σ.modify r fun g=>⟨g.n+1,TC.qM z (g.n+1) g.t g.n ⟨0,b⟩⟩
theorem iT {z:Bool} {σ:ah} {r k v:Nat} {b:CB} {q:ah→RR}:setC z σ r k v b q=q (f_ z σ r k ⟨v+1,b⟩):=by unfold setC;rw [jM];exact l5 (g:=fun g:Rg=>(⟨g.n,TC.qM z (k+1) g.t k ⟨v+1,b⟩⟩:Rg)) fun Z g=>wm (t:=g.t)
theorem qz {z:Bool} {av:Nat} {σ:ah} {b:CB} {q:DV→ah→RR} {g:Rg} (h:σ[av]?=some g):cT z av σ b q=q (.aj av g.n) (ez z σ av b):=by
 unfold cT;rw [aH,h];simp only [jM];refine (l5 (g:=fun I:Rg=>(⟨g.n+1,TC.qM z (g.n+1) I.t g.n ⟨0,b⟩⟩:Rg)) fun Z I=>wm (t:=I.t)).trans ?_;have:(σ.modify av fun I=>(⟨g.n+1,TC.qM z (g.n+1) I.t g.n ⟨0,b⟩⟩:Rg))=ez z σ av b:=by
  refine List.ext_getElem? fun i=>?_;unfold ez;rw [List.getElem?_modify,List.getElem?_modify];by_cases e:av=i
  ·subst e;rw [h];rfl
  ·simp [e]
 rw [this]
noncomputable def BD (σ:ah) (r:Nat):Option Nat:=match σ[r]? with
 |some g=>some g.n
 |none=>none
theorem jO {σ:ah} {r k:Nat}:aN σ r k=match σ[r]? with|some g=>g.t.get k|none=>none:=by unfold aN;rw [aH]<;>rfl
theorem rT {σ:ah} {r r' k':Nat} {f:Rg→Rg} {g:Rg} (h:σ[r]?=some g):aN (σ.modify r f) r' k'=if r'=r then (f g).t.get k' else aN σ r' k':=by
 rw [jO,jO,List.getElem?_modify];by_cases e:r=r'
 ·subst e;rw [h];simp
 ·rw [aS (fun q=>e q.symm)];simp [e]
theorem vh {σ:ah} {r r':Nat} {f:Rg→Rg} {g:Rg} (h:σ[r]?=some g):BD (σ.modify r f) r'=if r'=r then some (f g).n else BD σ r':=by
 unfold BD;rw [List.getElem?_modify];by_cases e:r=r'
 ·subst e;rw [h];simp
 ·rw [aS (fun q=>e q.symm)];simp [e]
theorem AI {σ:ah} {r k:Nat} {c:Cell} (h:aN σ r k=some c):∃g,σ[r]?=some g:=by
 rw [jO] at h;cases q:σ[r]? with
 |none=>rw [q] at h;cases h
 |some g=>exact ⟨g,rfl⟩
theorem zx {z:Bool} {σ:ah} {r k:Nat} {c₀ c:Cell} (h:aN σ r k=some c₀) (r' k':Nat):aN (f_ z σ r k c) r' k'=if r'=r∧k'=k then some c else aN σ r' k':=by
 refine aA (AI h) fun g hg=>?_;unfold f_;rw [rT hg];by_cases e:r'=r
 ·subst e
  rw [bk rfl];show (TC.qM z (k+1) g.t k c).get k'=_;rw [TC.rU (Nat.lt_succ_self _),jO,hg];simp
 ·simp [e]
theorem B8 {z:Bool} {σ:ah} {r k:Nat} {c₀ c:Cell} (h:aN σ r k=some c₀) (r':Nat):BD (f_ z σ r k c) r'=BD σ r':=by
 refine aA (AI h) fun g hg=>?_;unfold f_;rw [vh hg];by_cases e:r'=r
 ·subst e;rw [bk rfl];unfold BD;rw [hg]
 ·simp [e]
theorem zv {z:Bool} {σ:ah} {av:Nat} {b:CB} {g:Rg} (h:σ[av]?=some g) (r' k':Nat):aN (ez z σ av b) r' k'=if r'=av∧k'=g.n then some ⟨0,b⟩ else aN σ r' k':=by
 unfold ez;rw [rT h];by_cases e:r'=av
 ·subst e
  rw [bk rfl];show (TC.qM z (g.n+1) g.t g.n ⟨0,b⟩).get k'=_;rw [TC.rU (Nat.lt_succ_self _),jO,h];simp
 ·simp [e]
theorem B7 {z:Bool} {σ:ah} {av:Nat} {b:CB} {g:Rg} (h:σ[av]?=some g) (r':Nat):BD (ez z σ av b) r'=if r'=av then some (g.n+1) else BD σ r':=vh h
theorem pY {β:Type}:∀{l:zD} {x v:DV} {k:List (DV×DV)→β},xg l x v k=k (aM l x v)
 |[],_,_,_=>rfl
 |p::l,x,v,k=>by
  show (match i_ p.1 x with|some b=>(match b with|true=>k ((p.1,v)::l)|false=>xg l x v fun l=>k (p::l))|none=>xg l x v fun l=>k (p::l))=k (match i_ p.1 x with|some b=>(match b with|true=>(p.1,v)::l|false=>p::aM l x v)|none=>p::aM l x v);cases i_ p.1 x with
  |none=>exact pY
  |some b=>cases b;exact pY;rfl
theorem rI {β:Type} {z:Bool} {l:zD} {x v:DV} {k:List (DV×DV)→β}:oJ z l x v k=k (aM l x v):=by cases z;rfl;exact pY
theorem bJ {a b:Int}:ck a b=decide (a=b):=by
 cases a<;>cases b
 ·show Nat.beq _ _=_;rw [cK,Bool.eq_iff_iff];simp only [decide_eq_true_eq,Int.ofNat_eq_natCast];exact VW
 ·rfl
 ·rfl
 ·show Nat.beq _ _=_;rw [cK];simp
theorem Cp {a b:Int}:RV a b=decide (a<b):=by
 cases a<;>cases b
 ·show Nat.blt _ _=_;rw [blt_iff];simp
 ·show false=_;symm;apply nU;simp only [Int.ofNat_eq_natCast];omega
 ·show true=_;symm;apply gH;simp only [Int.ofNat_eq_natCast];omega
 ·show Nat.blt _ _=_;rw [blt_iff];rename_i m n;rw [Bool.eq_iff_iff];simp;omega
theorem o4:∀{a b:List Nat},CM a b=decide (a=b)
 |[],[]=>rfl
 |[],_::_=>rfl
 |_::_,[]=>rfl
 |x::a,y::b=>by show (match Nat.beq x y with|true=>CM a b|false=>false)=_;rw [cK,o4];by_cases h:x=y<;>simp [h]
theorem b9 {a b:Str}:kL a b=decide (a=b):=by unfold kL;rw [o4];obtain ⟨⟨a⟩⟩:=a;obtain ⟨⟨b⟩⟩:=b;simp
section
variable {A:zP} {R:Prop} {z:Bool}
theorem ao.bind {K:Rs→ah→Lc→RR} {o:RR}:ao A (o.bind K)→ao (fun r σ ls=>ao A (K r σ ls)) o:=by
 induction o with
 |no=>exact id
 |ok r σ ls=>exact id
 |br o t f B hf=>cases o with|none=>exact id|some b=>cases b;exact hf;exact B
 |op o k h=>cases o with|none=>exact id|some d=>exact h d
 |oc o i k h=>cases o with
  |none=>exact id
  |some t=>
   show (match t.get i with|some d=>_|none=>False)→(match t.get i with|some d=>_|none=>False);cases t.get i with
   |none=>exact id
   |some d=>exact h d
theorem ao.aT {K:Rs→ah→Lc→RR} {o:RR}:ao (fun r σ ls=>ao A (K r σ ls)) o→ao A (o.bind K):=by
 induction o with
 |no=>exact id
 |ok r σ ls=>exact id
 |br o t f B hf=>cases o with|none=>exact id|some b=>cases b;exact hf;exact B
 |op o k h=>cases o with|none=>exact id|some d=>exact h d
 |oc o i k h=>cases o with
  |none=>exact id
  |some t=>
   show (match t.get i with|some d=>_|none=>False)→(match t.get i with|some d=>_|none=>False);cases t.get i with
   |none=>exact id
   |some d=>exact h d
theorem ao.mono {Ψ:zP} (m:∀r σ ls,A r σ ls→Ψ r σ ls) {o:RR}:ao A o→ao Ψ o:=by
 induction o with
 |no=>exact id
 |ok r σ ls=>exact m r σ ls
 |br o t f B hf=>cases o with|none=>exact id|some b=>cases b;exact hf;exact B
 |op o k h=>cases o with|none=>exact id|some d=>exact h d
 |oc o i k h=>cases o with
  |none=>exact id
  |some t=>
   show (match t.get i with|some d=>_|none=>False)→(match t.get i with|some d=>_|none=>False);cases t.get i with
   |none=>exact id
   |some d=>exact h d
theorem eH {o:Option Bool} {t f:RR} (p:ao A (pU z o t f)) (B:o=some true→ao A t→R) (hf:o=some false→ao A f→R):R:=by
 cases o with
 |none=>cases z<;>exact p.elim
 |some b=>cases b<;>cases z<;>first|exact hf rfl p|exact B rfl p
theorem jq {o:Option DV} {k:DV→RR} (p:ao A (Ax z o k)) (h:∀d,o=some d→ao A (k d)→R):R:=by
 cases o with
 |none=>cases z<;>exact p.elim
 |some d=>cases z<;>exact h d rfl p
theorem bq {σ:ah} {r k:Nat} {q:Cell→RR} (p:ao A (dU z σ r k q)) (h:∀cz b,aN σ r k=some ⟨cz,b⟩→ao A (q ⟨cz,b⟩)→R):R:=by
 cases z with
 |true=>
  have p:ao A (match aN σ r k with|some c=>q c|none=> .no):=p;cases e:aN σ r k with
  |none=>rw [e] at p;exact p.elim
  |some d=>rw [e] at p;exact h d.cz d.b e p
 |false=>
  have p:match ja σ r with|some t=>(match t.get k with|some d=>ao A (q d)|none=>False)|none=>False:=p
  have e0:aN σ r k=match ja σ r with|some t=>t.get k|none=>none:=by unfold aN ja;cases aL σ r<;>rfl
  cases M:ja σ r with
  |none=>rw [M] at p;exact p.elim
  |some t=>
   rw [M] at p e0;have p:match t.get k with|some d=>ao A (q d)|none=>False:=p
   cases J:t.get k with
   |none=>rw [J] at p;exact p.elim
   |some d=>rw [J] at p;exact h d.cz d.b (e0.trans J) p
theorem bN {n:Nat} {t:RR} (p:ao A (gG z n t)) (h:n≤5000→ao A t→R):R:=eH p (fun e p=>h (jX (bw e)) p) fun Z p=>p.elim
theorem eT {α:Type} {o:Option α} {k:α→RR} (p:ao A (bo o k)) (h:∀d,o=some d→ao A (k d)→R):R:=by
 cases o with
 |none=>exact p.elim
 |some d=>exact h d rfl p
theorem m9 {c:Bool} {k:RR} (p:ao A (I7 c k)) (h:c=true→ao A k→R):R:=by
 cases c with
 |false=>exact p.elim
 |true=>exact h rfl p
theorem mD {σ:ah} {g:zO} {k:RR} (p:ao A (nN z σ g k)) (h:eW σ g=true→ao A k→R):R:=by
 cases g with
 |none=>exact h rfl p
 |some g=>obtain ⟨r,i,v⟩:=g;refine bq p fun cz b e p=>eH p (fun J p=>h ?_ p) fun Z p=>p.elim;show (match aN σ r i with|some c=>Nat.beq c.cz v|none=>false)=true;rw [e];exact bw J
theorem lY {σ:ah} {r k v:Nat} {l:zL} (h:aN σ r k=some ⟨v,.list l⟩):i7 σ (.aj r k)=some l:=by show (match aN σ r k with|some c=>(match c.b with| .list l=>some l|_=>none)|none=>none)=some l;rw [h]
theorem in_list {P:Pg} {σ:ah} {r k v:Nat} {l:zL} {x:DV} {b:Bool} (h:aN σ r k=some ⟨v,.list l⟩) (e:iX l x=some b):fy P σ .yq x (.aj r k)=some b:=by show Ef (m_ σ x (.aj r k)) (n7 P x (.aj r k))=some b;unfold m_;rw [lY h];show Ef (iX l x) _=_;rw [e];rfl
theorem nA {P:Pg} {σ:ah} {r k v:Nat} {l:zL} {x:DV} {b:Bool} (h:aN σ r k=some ⟨v,.list l⟩) (e:iX l x=some b):fy P σ .eU x (.aj r k)=some (!b):=by show Ef (lI (m_ σ x (.aj r k))) (vX σ x (.aj r k))=some (!b);unfold m_;rw [lY h];show Ef (lI (iX l x)) _=_;rw [e];rfl
theorem notin_dict {P:Pg} {σ:ah} {r k v:Nat} {l:zD} {x:DV} {b:Bool} (h:aN σ r k=some ⟨v,.dict .n l⟩) (hk:KD.g9 (bh x) .n=true) (e:eZ (aY l x)=some b):fy P σ .eU x (.aj r k)=some (!b):=by
 show Ef (lI (m_ σ x (.aj r k))) (vX σ x (.aj r k))=some (!b);have:i7 σ (.aj r k)=none:=by show (match aN σ r k with|some c=>(match c.b with| .list l=>some l|_=>none)|none=>none)=none;rw [h]
 unfold m_;rw [this];show (match aN σ r k with|some c=>(match c.b with| .dict kd l=>(match kd with| .n=>(match KD.g9 (bh x) .n with|true=>(match aY l x with|some o=>(match o with|some _=>some false|none=>some true)|none=>none)|false=>none)|_=>none)|_=>none)|none=>none)=some (!b);rw [h];show (match KD.g9 (bh x) .n with|true=>(match aY l x with|some o=>(match o with|some _=>some false|none=>some true)|none=>none)|false=>none)=_;rw [hk];show (match aY l x with|some o=>(match o with|some _=>some false|none=>some true)|none=>none)=_;cases q:aY l x with
 |none=>rw [q] at e;exact nomatch e
 |some o=>rw [q] at e;cases o<;>cases bw e<;>rfl
theorem vf {P:Pg} {σ:ah} {op:wV} {x y:DV} {t f:RR} (p:ao A (EV P z σ op x y t f)) (B:fy P σ op x y=some true→ao A t→R) (hf:fy P σ op x y=some false→ao A f→R):R:=by
 cases op with
 |yq=>cases y with
  |aj r k=>
   refine bq p fun cz b F p=>?_;cases b with
   |list l=>exact eH p (fun e p=>B (in_list F e) p) fun e p=>hf (in_list F e) p
   |_=>exact p.elim
  |_=>exact eH p B hf
 |eU=>cases y with
  |aj r k=>
   refine bq p fun cz b F p=>?_;cases b with
   |list l=>exact eH p (fun e p=>hf (nA F e) p) fun e p=>B (nA F e) p
   |dict kd l=>cases kd with
    |n=>
     have p:ao A (match KD.g9 (bh x) .n with|true=>pU z (eZ (aY l x)) f t|false=> .no):=p;cases hk:KD.g9 (bh x) .n with
     |false=>rw [hk] at p;exact p.elim
     |true=>rw [hk] at p;exact eH p (fun e p=>hf (notin_dict F hk e) p) fun e p=>B (notin_dict F hk e) p
    |_=>exact p.elim
   |_=>exact p.elim
  |_=>exact eH p B hf
 |_=>exact eH p B hf
end
section
open scoped Classical
variable {g:Heap} {d:DV} {l:List (Str×Value)} {as:List (Nat×DV)} {x:Nat} {w:World} {W:Wd} {σ:ah} {I:Wd} {F:ah}
abbrev gJ:=Nat→Nat→Option Addr
noncomputable def nm (x:Nat):Str:=(aL j5 x).getD ⟨⟨[]⟩⟩
mutual
inductive aP (ρ:gJ) (h:Heap):DV→Value→Prop
 |none:aP ρ h .none .none
 |bool (b:Bool):aP ρ h (.bool b) (.bool b)
 |int (i:Int) (t:Tok):aP ρ h (.int i) (.int i t)
 |str (s:Str) (t:Tok):aP ρ h (.str s) (.str s t)
 |ai {l:zL} {x:Addr} {vs:zV}:fu h x vs→aO ρ h l vs→aP ρ h (.ai l) (.ref x)
 |aj {r k:Nat} {a:Addr}:ρ r k=some a→aP ρ h (.aj r k) (.ref a)
 |fn (a:Addr):aP ρ h (.fn a) (.ref a)
inductive aO (ρ:gJ) (h:Heap):List DV→List Value→Prop
 |nil:aO ρ h [] []
 |cons {d:DV} {v:Value} {l:zL} {vs:zV}:aP ρ h d v→aO ρ h l vs→aO ρ h (d::l) (v::vs)
end
def bC (ρ B:gJ):Prop:=∀r k a,ρ r k=some a→B r k=some a
theorem bC.refl {ρ:gJ}:bC ρ ρ:=fun Z Z Z e=>e
theorem bC.trans {a b c:gJ} (x:bC a b) (y:bC b c):bC a c:=fun r k z e=>y r k z (x r k z e)
theorem aX.refl':aX g g:=fun Z Z Z e=>e
section
variable {ρ B:gJ} {h D:Heap} {P:Value→Prop} {v:Value}
@[elab_as_elim] theorem aP.cG (r:aP ρ h .none v) (k:P .none):P v:=by cases r;exact k
@[elab_as_elim] theorem aP.pT {b:Bool} (r:aP ρ h (.bool b) v) (k:P (.bool b)):P v:=by cases r;exact k
@[elab_as_elim] theorem aP.aG {i:Int} (r:aP ρ h (.int i) v) (k:∀t,P (.int i t)):P v:=by cases r;exact k _
@[elab_as_elim] theorem aP.bI {i:Str} (r:aP ρ h (.str i) v) (k:∀t,P (.str i t)):P v:=by cases r;exact k _
@[elab_as_elim] theorem aP.b_ {l:zL} (r:aP ρ h (.ai l) v) (k:∀x vs,fu h x vs→aO ρ h l vs→P (.ref x)):P v:=by cases r with|ai a b=>exact k _ _ a b
@[elab_as_elim] theorem aP.bK {i j:Nat} (r:aP ρ h (.aj i j) v) (k:∀a,ρ i j=some a→P (.ref a)):P v:=by cases r with|aj a=>exact k _ a
@[elab_as_elim] theorem aP.jK {a:Addr} (r:aP ρ h (.fn a) v) (k:P (.ref a)):P v:=by cases r;exact k
@[elab_as_elim] theorem aO.bW {P:List Value→Prop} {v:zV} (r:aO ρ h [] v) (k:P []):P v:=by cases r;exact k
@[elab_as_elim] theorem aO.aQ {P:List Value→Prop} {v:zV} {l:zL} (r:aO ρ h (d::l) v) (k:∀x vs,aP ρ h d x→aO ρ h l vs→P (x::vs)):P v:=by cases r with|cons a b=>exact k _ _ a b
mutual
theorem sD (l:bC ρ B) (t:aX h D):∀(d:DV) (v:Value),aP ρ h d v→aP B D d v
 | .none,_,r=>r.cG .none
 | .bool _,_,r=>r.pT (.bool _)
 | .int _,_,r=>r.aG fun Z=> .int _ _
 | .str _,_,r=>r.bI fun Z=> .str _ _
 | .ai ds,_,r=>r.b_ fun Z Z Y h2=> .ai (qY t Y) (kK l t ds _ h2)
 | .aj _ _,_,r=>r.bK fun Z e=> .aj (l _ _ _ e)
 | .fn _,_,r=>r.jK (.fn _)
theorem kK (l:bC ρ B) (t:aX h D):∀(ds:zL) (vs:zV),aO ρ h ds vs→aO B D ds vs
 |[],_,r=>r.bW .nil
 |d::ds,_,r=>r.aQ fun Z Z K H=> .cons (sD l t d _ K) (kK l t ds _ H)
end
theorem aP.mono {v:Value} (r:aP ρ h d v) (l:bC ρ B) (t:aX h D):aP B D d v:=sD l t d v r
theorem aO.mono {d:zL} {v:zV} (r:aO ρ h d v) (l:bC ρ B) (t:aX h D):aO B D d v:=kK l t d v r
theorem aO.length:∀{ds:zL} {vs:zV},aO ρ h ds vs→vs.length=ds.length
 |[],_,r=>r.bW rfl
 |_::ds,_,r=>r.aQ fun Z Z Z H=>congrArg (·+1) (aO.length H)
theorem aO.append {es:zL} {ws:zV} (q:aO ρ h es ws):∀{ds:zL} {vs:zV},aO ρ h ds vs→aO ρ h (ds++es) (vs++ws)
 |[],_,r=>r.bW q
 |_::ds,_,r=>r.aQ fun Z Z K H=> .cons K (aO.append q H)
theorem aO.get:∀{ds:zL} {vs:zV} {i:Nat} {d:DV},aO ρ h ds vs→aL ds i=some d→∃v,vs[i]?=some v∧aP ρ h d v
 |[],_,_,_,_,e=>nomatch e
 |_::ds,_,0,_,r,e=>r.aQ fun v Z K Z=>⟨v,rfl,bw e▸K⟩
 |_::ds,_,i+1,_,r,e=>r.aQ fun Z Z Z H=>let ⟨v,a,b⟩:=aO.get (ds:=ds) (i:=i) H e;⟨v,a,b⟩
theorem aO.set {v:Value} (q:aP ρ h d v):∀{ds:zL} {vs:zV} {i:Nat},aO ρ h ds vs→aO ρ h (ds.set i d) (vs.set i v)
 |[],_,_,r=>r.bW .nil
 |_::ds,_,0,r=>r.aQ fun Z Z Z H=> .cons q H
 |_::ds,_,i+1,r=>r.aQ fun Z Z K H=> .cons K (aO.set q H)
theorem aO.drop:∀{ds:zL} {vs:zV} (i:Nat),aO ρ h ds vs→aO ρ h (ds.drop i) (vs.drop i)
 |_,_,0,r=>r
 |[],_,i+1,r=>r.bW .nil
 |_::ds,_,i+1,r=>r.aQ fun Z Z Z H=>aO.drop i H
theorem aO.take:∀{ds:zL} {vs:zV} (i:Nat),aO ρ h ds vs→aO ρ h (ds.take i) (vs.take i)
 |_,_,0,_=> .nil
 |[],_,i+1,r=>r.bW .nil
 |_::ds,_,i+1,r=>r.aQ fun Z Z K H=> .cons K (aO.take i H)
theorem aO.repl {ds:zL} {vs:zV} (r:aO ρ h ds vs):∀n,aO ρ h (repl n ds) (repl n vs)
 |0=> .nil
 |n+1=>aO.append (aO.repl r n) r
inductive rj (ρ:gJ) (h:Heap):List (Nat×DV)→List (Str×Value)→Prop
 |nil:rj ρ h [] []
 |cons {x:Nat} {d:DV} {v:Value} {as:List (Nat×DV)} {l:List (Str×Value)}:x<j5.length→aP ρ h d v→rj ρ h as l→rj ρ h ((x,d)::as) ((nm x,v)::l)
theorem rj.mono (r:rj ρ h as l) (le:bC ρ B) (t:aX h D):rj B D as l:=by
 induction r with
 |nil=>exact .nil
 |cons a b _ ih=>exact .cons a (b.mono le t) ih
theorem rj.length (r:rj ρ h as l):l.length=as.length:=by
 induction r with
 |nil=>rfl
 |cons _ _ _ ih=>exact congrArg (·+1) ih
theorem xQ:j5.Nodup:=by decide+kernel
theorem gW {y:Nat} (N:x<j5.length) (M:y<j5.length) (e:nm x=nm y):x=y:=by unfold nm at e;rw [aH,aH,tD N,tD M] at e;exact (List.getElem_inj xQ).mp e
theorem Al {y:Nat} (N:x<j5.length) (M:y<j5.length) (e:x≠y):(nm x==nm y)=false:=by simpa using fun q=>e (gW N M q)
theorem ou {a b:Str} {v:Value} (h:(a==b)=false):nX b ((a,v)::l)=nX b l:=by unfold nX;rw [List.find?_cons];simp only [h]
theorem rj.aF (r:rj ρ h as l) (e:aF as x=some d) (N:x<j5.length):∃v,nX (nm x) l=some v∧aP ρ h d v:=by
 induction r with
 |nil=>cases e
 | @cons y d' v as l M hr _ ih=>
  rw [b6] at e;by_cases Z:y=x
  ·subst Z
   rw [bk rfl] at e;exact cJ v (by simp [nX]) (bw e▸hr)
  ·rw [aS Z] at e
   refine az (ih e) fun u hu q=>?_;exact cJ u ((ou (Al M N Z)).trans hu) q
theorem rj.put (r:rj ρ h as l) {v:Value} (N:x<j5.length) (q:aP ρ h d v):rj ρ h (aV as x d) (sG (nm x) v l):=by
 induction r with
 |nil=>exact .cons N q .nil
 | @cons y d' v' as l M hr O ih=>
  unfold aV sG;by_cases e:y=x
  ·subst e
   simp only [if_true,beq_self_eq_true];exact .cons M q O
  ·simp only [e,if_false,Al M N e]
   exact .cons M hr ih
end
noncomputable def gi.dv:gi→DV
 | .pair a b=> .ai [.int a,.int b]
 | .named a b l=> .ai [.int a,.int b,.ai (l.map .int)]
noncomputable def ru.dv (k:ru):DV:= .ai [.int k.LQ,.str k.name,.int k.n]
inductive om (ρ:gJ) (h:Heap):List (DV×DV)→List (Str×Value)→Prop
 |nil:om ρ h [] []
 |cons {s:Str} {d:DV} {v:Value} {l:zD} {k:List (Str×Value)}:aP ρ h d v→om ρ h l k→om ρ h ((.str s,d)::l) ((s,v)::k)
inductive tF {KK:Type} (dv:KK→DV) (is:Heap→KK→Addr→Prop) (ρ:gJ) (h:Heap):List (DV×DV)→List (KK×Addr×Value)→Prop
 |nil:tF dv is ρ h [] []
 |cons {s:KK} {a:Addr} {d:DV} {v:Value} {l:zD} {k:List (KK×Addr×Value)}:is h s a→aP ρ h d v→tF dv is ρ h l k→tF dv is ρ h ((dv s,d)::l) ((s,a,v)::k)
theorem qB {h:Heap} (t:aX h g) {k:ru} {x:Addr} (r:wW h k x):wW g k x:=by refine t9 r fun T tn tb p=>?_;exact ⟨T,tn,tb,qY t p⟩
theorem nH {h:Heap} {r:gi} {x:Addr} (t:aX h g) (R:mH pr w h r x):mH pr w g r x:=by
 cases r with
 |pair a b=>refine ji R fun T tb p=>?_;exact zN T tb (qY t p)
 |named a b l=>obtain ⟨T,tb,y,p,o,i,n,ho,hc,hd,hi⟩:=R;exact ⟨T,tb,y,qY t p,o,i,n,t _ _ ⟨hc,i,n,hd⟩ ho,hc,hd,hi⟩
section
variable {ρ B:gJ} {h D:Heap}
theorem om.mono {l:zD} {k:List (Str×Value)} (r:om ρ h l k) (le:bC ρ B) (t:aX h D):om B D l k:=by
 induction r with
 |nil=>exact .nil
 |cons b _ ih=>exact .cons (b.mono le t) ih
theorem tF.mono {KK:Type} {dv:KK→DV} {is:Heap→KK→Addr→Prop} (go:∀{k a},is h k a→is D k a) {l:zD} {k:List (KK×Addr×Value)} (r:tF dv is ρ h l k) (le:bC ρ B) (t:aX h D):tF dv is B D l k:=by
 induction r with
 |nil=>exact .nil
 |cons a b _ ih=>exact .cons (go a) (b.mono le t) ih
end
abbrev LP (w:World):Heap→gi→Addr→Prop:=fun h k a=>mH pr w h k a
abbrev RB:Heap→ru→Addr→Prop:=fun h k a=>wW h k a
def jf (w:World) (ρ:gJ) (h:Heap) (kd:KD) (o:Obj) (l:zD):Prop:=
 match kd with
 | .z=>l=[]∧o.IsDictOf (intKind pr w) []
 | .s=>∃c6,o.IsDictOf (strKind pr w) c6∧om ρ h l c6
 | .r=>∃xs,DE (jW pr w) o xs∧tF gi.dv (LP w) ρ h l xs
 | .n=>∃xs,DE (fG pr w) o xs∧tF ru.dv RB ρ h l xs
theorem jf.mono {ρ B:gJ} {h D:Heap} {kd:KD} {o:Obj} {l:zD} (r:jf w ρ h kd o l) (le:bC ρ B) (t:aX h D):jf w B D kd o l:=by
 cases kd with
 |z=>exact r
 |s=>refine az r fun c6 a b=>?_;exact cJ c6 a (b.mono le t)
 |r=>refine az r fun c6 a b=>?_;exact cJ c6 a (b.mono (nH t) le t)
 |n=>refine az r fun c6 a b=>?_;exact cJ c6 a (b.mono (qB t) le t)
theorem jf.ex {ρ:gJ} {h:Heap} {kd:KD} {o:Obj} {l:zD} (r:jf w ρ h kd o l):o.ExactDict:=by
 cases kd with
 |z=>refine Ca r fun Z es ep e Z=>?_;exact e
 |s=>obtain ⟨c6,⟨es,ep,e,_⟩,b⟩:=r;exact e
 |r=>refine az r fun c6 a b=>?_;exact a.1
 |n=>refine az r fun c6 a b=>?_;exact a.1
structure Wd where
 ρ:gJ
 ob:Nat→Nat→Obj
 dx:Nat→Nat→Addr
 od:Nat→Nat→Obj
 led:List (Addr×Obj)
 xG:Addr→Nat×Nat×Bool
noncomputable abbrev bV (vs:zV) (n:Nat):Obj:={cls:= .type "list",data:= .seq vs.toArray n}
def rz (ρ:gJ) (h:Heap) (o:Option DV) (ov:Option Value):Prop:=match o with
 |none=>ov=none
 |some d=>∃v,ov=some v∧aP ρ h d v
def gI (w:World) (W:Wd) (h:Heap) (r k:Nat) (a:Addr):CB→Prop
 | .list l=>∃vs n,W.ob r k=bV vs n∧aO W.ρ h l vs
 | .inst C as=>W.ob r k=instObj C (W.dx r k)∧(W.dx r k,W.od r k)∈W.led∧W.xG (W.dx r k)=(r,k,true)∧(as.all fun p=>wc PG C p.1)=true∧∃l,rq (W.od r k) l l.length∧rj W.ρ h as l
 | .dict kd l=>(a==sysModules)=false∧jf w W.ρ h kd (W.ob r k) l
 | .var o=>∃ov,(W.ob r k).data= .cell ov∧rz W.ρ h o ov
def j9 (o:Obj):Prop:=¬(o.cls= .type "tuple" ∧∃vs n,o.data= .seq vs n)
structure j6 (w:World) (W:Wd) (σ:ah) (h:Heap):Prop where
 cell:∀r k c,aN σ r k=some c→∃a,W.ρ r k=some a∧W.xG a=(r,k,false)∧(a,W.ob r k)∈W.led∧gI w W h r k a c.b
 dom:∀r k a,W.ρ r k=some a→∃c,aN σ r k=some c
 ig:∀r k c,aN σ r k=some c→∃n,BD σ r=some n∧k<n
 cls:∀p∈W.led,j9 p.2
structure Cx where
 dp:Nat
 un:Nat
 gd:Option (List Code)
 outer:List Env
 base:Heap
 g:Heap
 L:Addr
 fe:Env
 ev:Env
 ex:List (Addr×Obj)
 ml:(Str→Option Value)→Prop
noncomputable abbrev Cx.A (c:Cx):Around:=Ar c.dp c.un c.gd (c.fe::c.outer)
def Cx.Loc (c:Cx) (m U:Str→Option Value):Prop:=c.ml m∧((c.ev.locals=c.L∧U=m)∨∃o,(c.ev.locals,o)∈c.ex∧PyProof.Rows.LCg.NsObj o U)
def Cx.Var (c:Cx) (m:Str→Option Value) (x:Nat) (v:Value):Prop:=(c.ev.kindOf (nm x)=some .local→m (nm x)=some v)∧(c.ev.kindOf (nm x)=some .cell→∃a,c.ev.cells.lookup (nm x)=some a∧v= .ref a)
abbrev j8 (c:Cx) (W:Wd) (ls:Lc) (h:Heap) (m:Str→Option Value):Prop:=∀x d,aF ls x=some d→x<j5.length∧∃v,c.Var m x v∧aP W.ρ h d v
structure Cx.aC (w:World) (c:Cx) (W:Wd) (σ:ah) (ls:Lc) (h:Heap):Prop where
 fr:∃m,Fr c.g c.L h m∧∃U,c.Loc m U∧j8 c W ls h U
 nw:News c.g c.L h (W.led++c.ex)
 jl:∀p∈c.ex,∀q∈W.led,p.1≠q.1
 cells:j6 w W σ h
structure Ext (W:Wd) (σ:ah) (I:Wd) (F:ah):Prop where
 le:bC W.ρ I.ρ
 cz:∀r k c,aN σ r k=some c→∃c',aN F r k=some c'∧c.cz≤c'.cz∧(c.cz=c'.cz→c'=c∧I.ob r k=W.ob r k)
theorem Ext.refl:Ext W σ W σ:=⟨bC.refl,fun r k c e=>⟨c,e,jd _,fun Z=>⟨rfl,rfl⟩⟩⟩
theorem Ext.trans {J:Wd} {G:ah} (a:Ext W σ I F) (b:Ext I F J G):Ext W σ J G:=by refine ⟨a.le.trans b.le,fun r k c e=>?_⟩;refine iZ (a.cz r k c e) fun c' e' l' f'=>iZ (b.cz r k c' e') fun c'' e'' V f=>n6 c'' e'' (fQ l' V) (fun q=>?_);have Y:c.cz=c'.cz:=Nat.le_antisymm l' (q▸V);refine aZ (f' Y) fun S o1=>?_;subst S;refine aZ (f (Y▸q)) fun S o2=>?_;subst S;exact ⟨rfl,o2.trans o1⟩
structure Go (W:Wd) (σ:ah) (h:Heap) (I:Wd) (F:ah) (D:Heap):Prop where
 e:Ext W σ I F
 t:aX h D
theorem Go.refl {h:Heap}:Go W σ h W σ h:=⟨.refl,aX.refl'⟩
theorem Go.trans {J:Wd} {G:ah} {h D X:Heap} (a:Go W σ h I F D) (b:Go I F D J G X):Go W σ h J G X:=⟨a.e.trans b.e,a.t.trans b.t⟩
theorem aP.go {h D:Heap} {v:Value} (r:aP W.ρ h d v) (g:Go W σ h I F D):aP I.ρ D d v:=r.mono g.e.le g.t
theorem aO.go {h D:Heap} {d:zL} {v:zV} (r:aO W.ρ h d v) (g:Go W σ h I F D):aO I.ρ D d v:=r.mono g.e.le g.t
abbrev zw {α:Type} (w:World) (c:Cx) (m:Sem α) (Q:α→Shared→Prop) (E:zQ) (s:Shared):Prop:=wpAny (M0 w) c.A m Q E s
end
section
variable {a:Addr} {b:CB} {H:Wd} {m:Str→Option Value} {o E:Obj} {av:Nat} {g:Rg}
noncomputable def m8 (l:zA) (a:Addr):List (Addr×Obj):=l.filter fun p=>p.1 !=a
theorem bG {l:zA} {p:Addr×Obj}:p∈m8 l a↔p∈l∧p.1≠a:=by simp [m8]
section
variable {z:Bool} {w:World} {c:Cx} {W:Wd} {σ σ':ah} {ls:Lc} {h B:Heap} {r k:Nat}
theorem gI.mono (x:gI w W h r k a b) (le:bC W.ρ H.ρ) (t:aX h B) (Q:H.ob r k=W.ob r k) (V:H.dx r k=W.dx r k)
  (e3:(∃C as,b= .inst C as)→H.od r k=W.od r k∧(W.dx r k,W.od r k)∈H.led∧H.xG (W.dx r k)=W.xG (W.dx r k)):gI w H B r k a b:=by
 cases b with
 |list l=>refine dB x fun vs n e q=>?_;exact Fi vs n (Q.trans e) (q.mono le t)
 |dict kd l=>exact ⟨x.1,Q▸x.2.mono le t⟩
 |var o=>
  refine az x fun ov e q=>cJ ov (Q▸e) ?_;cases o with
  |none=>exact q
  |some d=>refine az q fun v e q=>?_;exact cJ v e (q.mono le t)
 |inst C as=>obtain ⟨e,m,lb,oa,l,D,q⟩:=x;refine eg (e3 ⟨C,as,rfl⟩) fun f1 f2 f3=>⟨Q.trans (V▸e),V▸f1▸f2,V▸f3.trans lb,oa,l,f1▸D,q.mono le t⟩
theorem j8.mono (x:j8 c W ls h m) (le:bC W.ρ H.ρ) (t:aX h B):j8 c H ls B m:=fun y d e=>let ⟨a,v,b,q⟩:=x y d e;⟨a,v,b,q.mono le t⟩
theorem j6.keep (C:j6 w W σ h) (t:aX h B):j6 w W σ B:=
 ⟨fun r k c e=>(C.cell r k c e).imp fun a h=>⟨h.1,h.2.1,h.2.2.1,h.2.2.2.mono bC.refl t rfl rfl fun z=>z.elim fun C' z=>z.elim fun as q=>by have e4:=h.2.2.2;rw [q] at e4;exact ⟨rfl,e4.2.1,rfl⟩⟩,C.dom,C.ig,C.cls⟩
def Cx.Goes (c:Cx) (h B:Heap):Prop:=∀m,Fr c.g c.L h m→Fr c.g c.L B m
theorem Cx.aC.MA (S:c.aC w W σ ls h) (f:c.Goes h B) (le:bC W.ρ H.ρ) (t:aX h B):∃m,Fr c.g c.L B m∧∃Z,c.Loc m Z∧j8 c H ls B Z:=
 S.fr.imp fun m h=>⟨f m h.1,h.2.imp fun Z h=>⟨h.1,j8.mono h.2 le t⟩⟩
theorem Cx.aC.go (S:c.aC w W σ ls h) (f:c.Goes h B) (O:News c.g c.L B (W.led++c.ex)) (t:aX h B):c.aC w W σ ls B:=⟨S.MA f .refl t,O,S.jl,S.cells.keep t⟩
theorem Ad (S:c.aC w W σ ls h) (hm:(a,o)∈W.led) (O:News c.g c.L B ((a,E)::m8 (W.led++c.ex) a)):News c.g c.L B (((a,E)::m8 W.led a)++c.ex):=by
 intro p A;rcases jx A with A|A
 ·rcases dP A with rfl|A
  ·exact O _ (.head _)
  ·exact O _ (.tail _ (bG.mpr ⟨dS _ (bG.mp A).1,(bG.mp A).2⟩))
 ·exact O _ (.tail _ (bG.mpr ⟨d9 _ A,S.jl _ A _ hm⟩))
theorem Ac (S:c.aC w W σ ls h) (hm:(a,o)∈W.led):News c.g c.L h ((a,o)::m8 (W.led++c.ex) a):=by
 intro p A;rcases dP A with rfl|A
 ·exact S.nw _ (dS _ hm)
 ·exact S.nw _ (bG.mp A).1
theorem CK (S:c.aC w W σ ls h) (hm:(a,o)∈W.led):∀p∈c.ex,∀q∈(a,E)::m8 W.led a,p.1≠q.1:=by
 intro p A q R;rcases dP R with rfl|R
 ·exact (S.jl p A (a,o) hm:p.1≠a)
 ·exact S.jl p A q (bG.mp R).1
noncomputable abbrev Wd.wr (W:Wd) (r k:Nat) (q:Bool) (x:Addr) (E:Obj):Wd:=
 {W with ob:=fun r' k'=>if (r'=r∧k'=k)∧q=false then E else W.ob r' k',od:=fun r' k'=>if (r'=r∧k'=k)∧q=true then E else W.od r' k',led:=(x,E)::m8 W.led x}
theorem Cx.aC.write (S:c.aC w W σ ls h) {cl:Cell} {x:Addr} {q:Bool} (U:aN σ r k=some cl) (hx:(x,o)∈W.led) (hl:W.xG x=(r,k,q))
  (f:c.Goes h B) (O:News c.g c.L B ((x,E)::m8 (W.led++c.ex) x)) (t:aX h B) (M:j9 E)
  (P:∃a,W.ρ r k=some a∧W.xG a=(r,k,false)∧(a,(W.wr r k q x E).ob r k)∈(W.wr r k q x E).led∧gI w (W.wr r k q x E) B r k a b):
  c.aC w (W.wr r k q x E) (f_ z σ r k ⟨cl.cz+1,b⟩) ls B∧Go W σ h (W.wr r k q x E) (f_ z σ r k ⟨cl.cz+1,b⟩) B:=by
 have hg:=zx (z:=z) (c:=⟨cl.cz+1,b⟩) U;have Sq:∀{a2:Addr} {r' k':Nat} {q':Bool},¬(r'=r∧k'=k)→W.xG a2=(r',k',q')→a2≠x:=fun n e z=>by rw [z,hl] at e;cases e;exact n ⟨rfl,rfl⟩
 refine ⟨⟨S.MA f .refl t,Ad S hx O,CK S hx,fun r' k' c' e=>?_,fun r' k' a2 e=>?_,fun r' k' c' e=>?_,fun p A=>?_⟩,⟨bC.refl,fun r' k' c' e=>?_⟩,t⟩
 ·rw [hg] at e
  by_cases n:r'=r∧k'=k
  ·refine aZ n fun J I=>?_;subst J;subst I
   rw [bk ⟨rfl,rfl⟩] at e;cases e;exact P
  ·rw [aS n] at e
   refine jH (S.cells.cell r' k' c' e) fun a2 f1 f2 f3 f4=>?_;have Q:(W.wr r k q x E).ob r' k'=W.ob r' k':=aS fun z=>n z.1;refine zM a2 f1 f2 ?_ (f4.mono bC.refl t Q rfl fun ⟨C',as,z⟩=>?_)
   ·rw [Q];exact .tail _ (bG.mpr ⟨f3,Sq n f2⟩)
   ·rw [z] at f4
    exact eo (aS fun z=>n z.1) (.tail _ (bG.mpr ⟨f4.2.1,Sq n f4.2.2.1⟩)) rfl
 ·refine aA (S.cells.dom r' k' a2 e) fun c2 s=>?_
  rw [hg];by_cases n:r'=r∧k'=k
  ·exact ⟨_,bk n⟩
  ·exact ⟨c2,(aS n).trans s⟩
 ·rw [hg] at e
  rw [B8 (z:=z) U];by_cases n:r'=r∧k'=k
  ·refine aZ n fun J I=>?_;subst J;subst I
   exact S.cells.ig _ _ _ U
  ·rw [aS n] at e
   exact S.cells.ig _ _ _ e
 ·rcases dP A with rfl|A
  ·exact M
  ·exact S.cells.cls p (bG.mp A).1
 ·rw [hg]
  by_cases n:r'=r∧k'=k
  ·refine aZ n fun J I=>?_;subst J;subst I
   rw [U] at e;cases e;exact n6 _ (bk ⟨rfl,rfl⟩) (Nat.le_succ _) (fun z=>absurd z (lM (Nat.lt_succ_self _)))
  ·exact n6 c' ((aS n).trans e) (jd _) (fun Z=>⟨rfl,aS fun z=>n z.1⟩)
noncomputable abbrev Wd.nu (W:Wd) (r k:Nat) (a:Addr) (o:Obj) (d:Addr) (od:Obj) (more:zA):Wd:=
 ⟨fun r' k'=>if r'=r∧k'=k then some a else W.ρ r' k',fun r' k'=>if r'=r∧k'=k then o else W.ob r' k',fun r' k'=>if r'=r∧k'=k then d else W.dx r' k',fun r' k'=>if r'=r∧k'=k then od else W.od r' k',
  (a,o)::(more++W.led),fun b=>if b=a then (r,k,false) else if ∃p∈more,b=p.1 then (r,k,true) else W.xG b⟩
theorem AL (S:c.aC w W σ ls h) (j:σ[av]?=some g):(∀k' c',aN σ av k'=some c'→k'<g.n)∧W.ρ av g.n=none:=by
 have K:∀k' c',aN σ av k'=some c'→k'<g.n:=fun k' c' e=>by refine az (S.cells.ig _ _ _ e) fun n2 V l2=>?_;unfold BD at V;rw [j] at V;cases V;exact l2
 refine ⟨K,?_⟩;cases q:W.ρ av g.n with
 |none=>rfl
 |some a2=>refine aA (S.cells.dom _ _ _ q) fun c2 s=>absurd (K _ _ s) (Nat.lt_irrefl _)
theorem Cx.aC.alloc (S:c.aC w W σ ls h) {d:Addr} {od:Obj} {more:zA} (j:σ[av]?=some g)
  (f:c.Goes h B) (O:News c.g c.L B ((a,o)::(more++(W.led++c.ex)))) (hf:∀p∈W.led++c.ex,p.1≠a∧∀q∈more,p.1≠q.1) (t:aX h B) (M:j9 o∧∀q∈more,j9 q.2)
  (P:bC W.ρ (W.nu av g.n a o d od more).ρ→(∀r' k',r'=av∧k'=g.n→(W.nu av g.n a o d od more).ob r' k'=o∧(W.nu av g.n a o d od more).dx r' k'=d∧(W.nu av g.n a o d od more).od r' k'=od)→gI w (W.nu av g.n a o d od more) B av g.n a b):
  c.aC w (W.nu av g.n a o d od more) (ez z σ av b) ls B∧Go W σ h (W.nu av g.n a o d od more) (ez z σ av b) B∧(W.nu av g.n a o d od more).ρ av g.n=some a:=by
 refine aZ (AL S j) fun hlt i=>?_;have hg:=zv (z:=z) (b:=b) j;have T:∀{r' k' c'},aN σ r' k'=some c'→¬(r'=av∧k'=g.n):=fun e n=>by refine aZ n fun J I=>?_;subst J;subst I;exact absurd (hlt _ _ e) (Nat.lt_irrefl _)
 have hle:bC W.ρ (W.nu av g.n a o d od more).ρ:=fun r' k' a2 e=>by refine (aS fun n=>?_).trans e;refine aZ n fun J I=>?_;subst J;subst I;rw [i] at e;cases e
 have X:∀{x:Addr} {y:Obj},(x,y)∈W.led→(W.nu av g.n a o d od more).xG x=W.xG x:=fun hm=>have z:=hf _ (dS _ hm)
  (aS z.1).trans (aS fun ⟨p,A,e⟩=>z.2 p A e)
 refine eo ⟨S.MA f hle t,fun p A=>O p ?_,fun p A q R=>?_,fun r' k' c' e=>?_,fun r' k' a2 e=>?_,fun r' k' c' e=>?_,fun p A=>?_⟩ ⟨⟨hle,fun r' k' c' e=>?_⟩,t⟩ (bk ⟨rfl,rfl⟩)
 ·rcases jx A with A|A
  ·rcases dP A with rfl|A
   ·exact .head _
   ·rcases jx A with A|A
    ·exact .tail _ (dS _ A)
    ·exact .tail _ (d9 _ (dS _ A))
  ·exact .tail _ (d9 _ (d9 _ A))
 ·have z:=hf p (d9 _ A)
  rcases dP R with rfl|R
  ·exact z.1
  ·rcases jx R with R|R
   ·exact z.2 q R
   ·exact S.jl p A q R
 ·rw [hg] at e
  by_cases n:r'=av∧k'=g.n
  ·refine aZ n fun J I=>?_;subst J;subst I
   rw [bk ⟨rfl,rfl⟩] at e;cases e;exact zM a (bk ⟨rfl,rfl⟩) (bk rfl) (by rw [show (W.nu r' g.n a o d od more).ob r' g.n=o from bk ⟨rfl,rfl⟩];exact .head _) (P hle fun Z Z n=>⟨bk n,bk n,bk n⟩)
  ·rw [aS n] at e
   refine jH (S.cells.cell r' k' c' e) fun a2 f1 f2 f3 f4=>?_;have Q:(W.nu av g.n a o d od more).ob r' k'=W.ob r' k':=aS n;refine zM a2 ((aS n).trans f1) ((X f3).trans f2) (by rw [Q];exact .tail _ (d9 _ f3)) (f4.mono hle t Q (aS n) fun ⟨C',as,z⟩=>?_);rw [z] at f4;exact eo (aS n) (.tail _ (d9 _ f4.2.1)) (X f4.2.1)
 ·rw [hg]
  by_cases n:r'=av∧k'=g.n
  ·exact ⟨_,bk n⟩
  ·rw [aS n]
   exact S.cells.dom r' k' a2 ((aS n).symm.trans e)
 ·rw [hg] at e
  rw [B7 (z:=z) j];by_cases n:r'=av∧k'=g.n
  ·exact cJ (g.n+1) (bk n.1) (by rw [n.2];exact Nat.lt_succ_self _)
  ·rw [aS n] at e
   by_cases z:r'=av
   ·subst z
    exact cJ (g.n+1) (bk rfl) (Nat.lt_succ_of_lt (hlt _ _ e))
   ·rw [aS z]
    exact S.cells.ig _ _ _ e
 ·rcases dP A with rfl|A
  ·exact M.1
  ·exact (jx A).elim (M.2 p) (S.cells.cls p)
 ·rw [hg,aS (T e)]
  exact n6 c' e (jd _) (fun Z=>⟨rfl,aS (T e)⟩)
end
open Classical in
noncomputable def kQ (g h:Heap):List (Addr×Obj):=(List.range h.objs.size).filterMap fun a=>match h.get? a with
 |some o=>if (o.cls= .type "tuple" ∧∃vs n,o.data= .seq vs n)∧g.get? a=none then some (a,o) else none
 |none=>none
theorem nj {g h:Heap} {x:Addr}:(x,o)∈kQ g h↔h.get? x=some o∧(o.cls= .type "tuple" ∧∃vs n,o.data= .seq vs n)∧g.get? x=none:=by
 unfold kQ;rw [List.mem_filterMap];constructor
 ·rintro ⟨a,_,e⟩
  cases ho:h.get? a with
  |none=>rw [ho] at e;cases e
  |some E=>
   rw [ho] at e;by_cases hh:(E.cls= .type "tuple" ∧∃vs n,E.data= .seq vs n)∧g.get? a=none
   ·cases (bk hh).symm.trans e
    exact ⟨ho,hh⟩
   ·cases (aS hh).symm.trans e
 ·rintro ⟨K,Y⟩
  refine cJ x (nV (Heap.lt_size K)) ?_;rw [K];exact bk Y
theorem pq {g h:Heap} {L:Addr} (F:Fr g L h m):News g L h (kQ g h):=by rintro ⟨x,o⟩ A;obtain ⟨K,⟨_,vs,n,Y⟩,h3⟩:=nj.mp A;refine eo K (fun e=>?_) h3;refine xo F.ns fun oL es ep hL hd Z=>?_;rw [show x=L from e,hL] at K;cases K;rw [hd] at Y;cases Y
theorem jZ {g h B:Heap} {L:Addr} {Z:Str→Option Value} (F:Fr g L h m) (F':Fr g L B Z) (O:News g L B (kQ g h)):aX h B:=fun x o U e=>by
 cases q:g.get? x with
 |some o2=>have K:=F.keep x o2 q;rw [e] at K;cases K;exact F'.keep x o q
 |none=>exact (O (x,o) (nj.mpr ⟨e,U,q⟩)).1
section
variable {z:Bool} {w:World} {c:Cx} {W:Wd} {σ σ':ah} {ls:Lc} {h B:Heap}
noncomputable abbrev rB (c:Cx) (W:Wd) (h:Heap):List (Addr×Obj):=(W.led++c.ex)++kQ c.g h
noncomputable abbrev tN (c:Cx) (W:Wd) (h:Heap) (a:Addr):List (Addr×Obj):=m8 (W.led++c.ex) a++kQ c.g h
theorem nv (S:c.aC w W σ ls h) (F:Fr c.g c.L h m):News c.g c.L h (rB c W h):=sj S.nw (pq F)
theorem J6 (S:c.aC w W σ ls h) (F:Fr c.g c.L h m) (hm:(a,o)∈W.led):News c.g c.L h ((a,o)::tN c W h a):=
 o5 (S.nw _ (dS _ hm)) (sj (fun p A=>S.nw p (bG.mp A).1) (pq F))
theorem LW (S:c.aC w W σ ls h) (hm:(a,o)∈W.led):∀p∈tN c W h a,p.1≠a:=by
 rintro ⟨x,o2⟩ A;rcases jx A with A|A
 ·exact (bG.mp A).2
 ·refine eg (nj.mp A) fun K Y Z=>?_
  intro e;have h3:h.get? a=some o:=(S.nw _ (dS _ hm)).1;rw [show x=a from e] at K;rw [K] at h3;cases h3;exact S.cells.cls _ hm Y
theorem Cx.aC.stand (S:c.aC w W σ ls h) (f:c.Goes h B) (O:News c.g c.L B (rB c W h)):c.aC w W σ ls B∧Go W σ h W σ B:=by refine az S.fr fun m F Z=>?_;have t:=jZ F (f m F) fun p A=>O p (d9 _ A);exact ⟨S.go f (fun p A=>O p (dS _ A)) t,.refl,t⟩
theorem iP (F:Fr c.g c.L h m) (F':Fr c.g c.L B m):c.Goes h B:=fun Z G=>by
 have:Z=m:=funext fun x=>by refine lB G.ns fun o1 es1 W_ Q d1 k1 f1=>lB F.ns fun o2 Tz Xa V d2 k2 f2=>?_;rw [Q] at V;cases V;rw [d1] at d2;cases d2;exact (f1 x).symm.trans (f2 x)
 exact this▸F'
theorem ku:c.Goes h (h.push o):=fun Z F=>F.push _
theorem Cx.aC.push (S:c.aC w W σ ls h):c.aC w W σ ls (h.push o)∧Go W σ h W σ (h.push o):=by refine az S.fr fun m F Z=>S.stand ku ((nv S F).pushKeep _)
theorem Cx.aC.new1 (S:c.aC w W σ ls h) (j:σ[av]?=some g) (f:c.Goes h B) (O:News c.g c.L B ((a,o)::rB c W h)) (hf:∀p∈W.led++c.ex,p.1≠a) (M:j9 o)
  (P:∀H:Wd,H.ob av g.n=o→bC W.ρ H.ρ→aX h B→gI w H B av g.n a b):∃H,c.aC w H (ez z σ av b) ls B∧Go W σ h H (ez z σ av b) B∧H.ρ av g.n=some a:=by
 refine az S.fr fun m F Z=>?_;have t:=jZ F (f m F) fun p A=>O p (.tail _ (d9 _ A));exact ⟨_,S.alloc (d:=a) (od:=o) (more:=[]) j f (fun p A=>O p ((dP A).elim (fun e=>e▸.head _) fun z=> .tail _ (dS _ z))) (fun p A=>⟨hf p A,fun Z z=>nomatch z⟩) t ⟨M,fun Z z=>nomatch z⟩ fun le e=>P _ (e _ _ ⟨rfl,rfl⟩).1 le t⟩
theorem gu (S:c.aC w W σ ls h) {p:Addr×Obj} (A:p∈W.led++c.ex):p.1<h.objs.size:=Heap.lt_size (S.nw p A).1
theorem fresh_at (S:c.aC w W σ ls h) (u:h.objs.size≤a):(∀p∈W.led++c.ex,p.1≠a)∧c.g.get? a=none∧a≠c.L:=by
 refine az S.fr fun m F Z=>eo (fun p A e=>absurd (gu S A) (Nat.not_lt.mpr (e▸u))) ?_ (fun e=>absurd F.ns.lt (Nat.not_lt.mpr (e▸u)));cases R:c.g.get? a with
 |none=>rfl
 |some E=>exact absurd (Heap.lt_size (F.keep _ _ R)) (Nat.not_lt.mpr u)
theorem gF (hs:Heap.SameBut a h B) (ho:h.get? a=some o) (U:j9 o):aX h B:=fun x E hc' e=>by
 by_cases q:x=a
 ·subst q
  rw [ho] at e;cases e;exact absurd hc' U
 ·exact (hs.2 x q).trans e
theorem jP (hs:Heap.SameBut a h B) (hL:a≠c.L) (hg:c.g.get? a=none):c.Goes h B:=fun m F=>by refine lB F.ns fun oL es' Iz hL' MP UI hLf=>?_;exact ⟨⟨oL,es',Iz,(hs.2 c.L fun e=>hL e.symm).trans hL',MP,UI,hLf⟩,fun b ob e=>(hs.2 b (fun q=>by rw [q,hg] at e;cases e)).trans (F.keep b ob e),F.above⟩
theorem kD {l:zA} (N:News c.g c.L h l) (hs:Heap.SameBut a h B) (ho':B.get? a=some E) (hL:a≠c.L) (hg:c.g.get? a=none):News c.g c.L B ((a,E)::m8 l a):=by
 intro p A;rcases dP A with rfl|A
 ·exact eo ho' hL hg
 ·refine aZ (bG.mp A) fun K Y=>⟨(hs.2 p.1 Y).trans (N p K).1,(N p K).2⟩
theorem Cx.aC.CP (S:c.aC w W σ ls h) {r k:Nat} {cl:Cell} (U:aN σ r k=some cl) (u:W.ρ r k=some a) (hs:Heap.SameBut a h B) (ho':B.get? a=some E) (M:j9 E)
  (P:∀H:Wd,H.ρ=W.ρ→H.ob r k=E→aX h B→gI w H B r k a b):∃H,c.aC w H (f_ z σ r k ⟨cl.cz+1,b⟩) ls B∧Go W σ h H (f_ z σ r k ⟨cl.cz+1,b⟩) B:=by
 refine jH (S.cells.cell r k cl U) fun a' ea el em Z=>?_;obtain rfl:a'=a:=bw (ea.symm.trans u);have z:=S.nw _ (dS _ em);have t:=gF hs z.1 (S.cells.cls _ em);have Q:(W.wr r k false a' E).ob r k=E:=bk ⟨⟨rfl,rfl⟩,rfl⟩;exact ⟨_,S.write U em el (jP hs z.2.1 z.2.2) (kD S.nw hs ho' z.2.1 z.2.2) t M ⟨a',u,el,by rw [Q];exact .head _,P _ rfl Q t⟩⟩
end
end
section
variable {R:Prop} {α:Type} {t u:α} {k:Nat} {x:Expr}
noncomputable def H9:Addr:=44
theorem af {a b:Bool} (h:(a&&b)=true) (q:a=true→b=true→R):R:=by cases a<;>cases b<;>first|exact q rfl rfl|exact nof h
theorem bu {a:Bool} (h:(!a)=true):a=false:=by cases a<;>first|rfl|exact nof h
theorem aW {a:α} {P:Prop} (h:none=some a):P:=nomatch h
noncomputable def bM (o:Option α) (f:α→Bool):Bool:=match o with
 |some a=>f a
 |none=>false
theorem au {o:Option α} {f:α→Bool} (h:bM o f=true) (q:∀a,o=some a→f a=true→R):R:=by
 cases o with
 |none=>exact nof h
 |some a=>exact q a rfl h
noncomputable def one (l:List α):Option α:=match l with
 |[]=>none
 |a::l=>match l with
  |[]=>some a
  |_::_=>none
theorem cO {l:List α} {a:α} (h:one l=some a):l=[a]:=by
 cases l with
 |nil=>cases h
 |cons b l=>cases l with
  |nil=>exact congrArg (·::[]) (bw h)
  |cons _ _=>cases h
noncomputable def e7 (l:List α):Bool:=match l with
 |[]=>true
 |_::_=>false
theorem bg {l:List α} (h:e7 l=true):l=[]:=by
 cases l with
 |nil=>rfl
 |cons _ _=>exact nof h
noncomputable def vI (b:Bool) (t:α):Option α:=match b with|true=>some t|false=>none
theorem Er {b:Bool} (h:vI b u=some t) (f:b=true→u=t→R):R:=by
 cases b with
 |true=>exact f rfl (bw h)
 |false=>exact aW h
structure VE where
 t:Nat
 f0:Str
 f1:Pos
 f2:Const
 f3:Nat
 f4:Expr
 f5:Expr
 f6:Option Expr
 f7:Option Expr
 f8:Option Expr
 f9:Operator
 E2:UnaryOp
 E3:List CmpOp
 lF:List Expr
 Mj:PySem.BoolOp
 Mk:Expr
 Ml:List (Option Expr)
 Mm:List Keyword
 Cc:List Comprehension
 Cd:Scope
noncomputable def W5 (x:Expr) (n:VE):VE:=x.casesOn (fun o l p=>{n with t:=9,f1:=p,lF:=l,Mj:=o}) (fun Z Z Z=>n) (fun a o b p=>{n with t:=6,f1:=p,f4:=a,f5:=b,f9:=o}) (fun o a p=>{n with t:=7,f1:=p,f4:=a,E2:=o}) (fun Z Z Z Z=>n) (fun a b c p=>{n with t:=10,f1:=p,f4:=a,f5:=b,Mk:=c}) (fun k v p=>{n with t:=13,f1:=p,lF:=v,Ml:=k}) (fun l k p=>{n with t:=17,f1:=p,f3:=k,lF:=l}) (fun e g s p=>{n with t:=15,f1:=p,f4:=e,Cc:=g,Cd:=s}) (fun e g s p=>{n with t:=18,f1:=p,f4:=e,Cc:=g,Cd:=s}) (fun k e g s p=>{n with t:=19,f1:=p,f4:=k,f5:=e,Cc:=g,Cd:=s}) (fun Z Z Z Z=>n) (fun Z Z=>n) (fun Z Z=>n) (fun Z Z=>n) (fun a o b p=>{n with t:=8,f1:=p,f4:=a,E3:=o,lF:=b}) (fun f a k p=>{n with t:=14,f1:=p,f4:=f,lF:=a,Mm:=k}) (fun Z Z Z Z=>n) (fun Z Z=>n) (fun c k p=>{n with t:=2,f1:=p,f2:=c,f3:=k}) (fun v s p=>{n with t:=3,f0:=s,f1:=p,f4:=v}) (fun v s p=>{n with t:=4,f1:=p,f4:=v,f5:=s}) (fun v p=>{n with t:=16,f1:=p,f4:=v}) (fun s p=>{n with t:=1,f0:=s,f1:=p}) (fun l p=>{n with t:=12,f1:=p,lF:=l}) (fun l k p=>{n with t:=11,f1:=p,f3:=k,lF:=l}) (fun a b c p=>{n with t:=5,f1:=p,f6:=a,f7:=b,f8:=c})
noncomputable def vE (x:Expr):VE:=W5 x ⟨0,default,default,default,default,x,x,none,none,none,default,default,[],[],default,x,[],[],[],default⟩
noncomputable def bE (r:VE):List Expr:=[.Name r.f0 r.f1,.Constant r.f2 r.f3 r.f1,.Attribute r.f4 r.f0 r.f1,.Subscript r.f4 r.f5 r.f1,.Slice r.f6 r.f7 r.f8 r.f1,.BinOp r.f4 r.f9 r.f5 r.f1,.UnaryOp r.E2 r.f4 r.f1,.Compare r.f4 r.E3 r.lF r.f1,.BoolOp r.Mj r.lF r.f1,.IfExp r.f4 r.f5 r.Mk r.f1,.Tuple r.lF r.f3 r.f1,.List r.lF r.f1,.Dict r.Ml r.lF r.f1,.Call r.f4 r.lF r.Mm r.f1,.ListComp r.f4 r.Cc r.Cd r.f1,.Starred r.f4 r.f1,.Set r.lF r.f3 r.f1,.SetComp r.f4 r.Cc r.Cd r.f1,.DictComp r.f4 r.f5 r.Cc r.Cd r.f1]
theorem HZ (x:Expr) (h:Nat.beq (vE x).t (k+1)=true):aL (bE (vE x)) k=some x:=by cases x<;>first|exact nof h|(cases ie h;rfl)
theorem fL {f:α→Expr} (h:vI (Nat.beq (vE x).t (k+1)) u=some t) (e:aL (bE (vE x)) k=some (f u)):x=f t:=Er h fun b z=>bw ((HZ x b).symm.trans (e.trans (congrArg (fun u=>some (f u)) z)))
noncomputable def cY (x:Expr):Option (Str×Pos):=vI (Nat.beq (vE x).t 1) ((vE x).f0,(vE x).f1)
theorem aU {t:Str×Pos} (h:cY x=some t):x= .Name t.1 t.2:=fL (k:=0) (f:=fun t=> .Name t.1 t.2) h rfl
noncomputable def pC (x:Expr):Option (Const×Nat×Pos):=vI (Nat.beq (vE x).t 2) ((vE x).f2,(vE x).f3,(vE x).f1)
theorem gY {t:Const×Nat×Pos} (h:pC x=some t):x= .Constant t.1 t.2.1 t.2.2:=fL (k:=1) (f:=fun t=> .Constant t.1 t.2.1 t.2.2) h rfl
noncomputable def dW (x:Expr):Option (Expr×Str×Pos):=vI (Nat.beq (vE x).t 3) ((vE x).f4,(vE x).f0,(vE x).f1)
theorem cN {t:Expr×Str×Pos} (h:dW x=some t):x= .Attribute t.1 t.2.1 t.2.2:=fL (k:=2) (f:=fun t=> .Attribute t.1 t.2.1 t.2.2) h rfl
noncomputable def dX (x:Expr):Option (Expr×Expr×Pos):=vI (Nat.beq (vE x).t 4) ((vE x).f4,(vE x).f5,(vE x).f1)
theorem bY {t:Expr×Expr×Pos} (h:dX x=some t):x= .Subscript t.1 t.2.1 t.2.2:=fL (k:=3) (f:=fun t=> .Subscript t.1 t.2.1 t.2.2) h rfl
noncomputable def q_ (x:Expr):Option (Option Expr×Option Expr×Option Expr×Pos):=vI (Nat.beq (vE x).t 5) ((vE x).f6,(vE x).f7,(vE x).f8,(vE x).f1)
theorem pD {t:Option Expr×Option Expr×Option Expr×Pos} (h:q_ x=some t):x= .Slice t.1 t.2.1 t.2.2.1 t.2.2.2:=fL (k:=4) (f:=fun t=> .Slice t.1 t.2.1 t.2.2.1 t.2.2.2) h rfl
noncomputable def Bp (x:Expr):Option (Expr×Operator×Expr×Pos):=vI (Nat.beq (vE x).t 6) ((vE x).f4,(vE x).f9,(vE x).f5,(vE x).f1)
theorem pB {t:Expr×Operator×Expr×Pos} (h:Bp x=some t):x= .BinOp t.1 t.2.1 t.2.2.1 t.2.2.2:=fL (k:=5) (f:=fun t=> .BinOp t.1 t.2.1 t.2.2.1 t.2.2.2) h rfl
noncomputable def nM (x:Expr):Option (UnaryOp×Expr×Pos):=vI (Nat.beq (vE x).t 7) ((vE x).E2,(vE x).f4,(vE x).f1)
theorem eG {t:UnaryOp×Expr×Pos} (h:nM x=some t):x= .UnaryOp t.1 t.2.1 t.2.2:=fL (k:=6) (f:=fun t=> .UnaryOp t.1 t.2.1 t.2.2) h rfl
noncomputable def s9 (x:Expr):Option (Expr×List CmpOp×List Expr×Pos):=vI (Nat.beq (vE x).t 8) ((vE x).f4,(vE x).E3,(vE x).lF,(vE x).f1)
theorem ly {t:Expr×List CmpOp×List Expr×Pos} (h:s9 x=some t):x= .Compare t.1 t.2.1 t.2.2.1 t.2.2.2:=fL (k:=7) (f:=fun t=> .Compare t.1 t.2.1 t.2.2.1 t.2.2.2) h rfl
noncomputable def qZ (x:Expr):Option (PySem.BoolOp×List Expr×Pos):=vI (Nat.beq (vE x).t 9) ((vE x).Mj,(vE x).lF,(vE x).f1)
theorem gX {t:PySem.BoolOp×List Expr×Pos} (h:qZ x=some t):x= .BoolOp t.1 t.2.1 t.2.2:=fL (k:=8) (f:=fun t=> .BoolOp t.1 t.2.1 t.2.2) h rfl
noncomputable def Br (x:Expr):Option (Expr×Expr×Expr×Pos):=vI (Nat.beq (vE x).t 10) ((vE x).f4,(vE x).f5,(vE x).Mk,(vE x).f1)
theorem yi {t:Expr×Expr×Expr×Pos} (h:Br x=some t):x= .IfExp t.1 t.2.1 t.2.2.1 t.2.2.2:=fL (k:=9) (f:=fun t=> .IfExp t.1 t.2.1 t.2.2.1 t.2.2.2) h rfl
noncomputable def nL (x:Expr):Option (List Expr×Nat×Pos):=vI (Nat.beq (vE x).t 11) ((vE x).lF,(vE x).f3,(vE x).f1)
theorem iV {t:List Expr×Nat×Pos} (h:nL x=some t):x= .Tuple t.1 t.2.1 t.2.2:=fL (k:=10) (f:=fun t=> .Tuple t.1 t.2.1 t.2.2) h rfl
noncomputable def Es (x:Expr):Option (List Expr×Pos):=vI (Nat.beq (vE x).t 12) ((vE x).lF,(vE x).f1)
theorem tB {t:List Expr×Pos} (h:Es x=some t):x= .List t.1 t.2:=fL (k:=11) (f:=fun t=> .List t.1 t.2) h rfl
noncomputable def Ep (x:Expr):Option (List (Option Expr)×List Expr×Pos):=vI (Nat.beq (vE x).t 13) ((vE x).Ml,(vE x).lF,(vE x).f1)
theorem s_ {t:List (Option Expr)×List Expr×Pos} (h:Ep x=some t):x= .Dict t.1 t.2.1 t.2.2:=fL (k:=12) (f:=fun t=> .Dict t.1 t.2.1 t.2.2) h rfl
noncomputable def iM (x:Expr):Option (Expr×List Expr×List Keyword×Pos):=vI (Nat.beq (vE x).t 14) ((vE x).f4,(vE x).lF,(vE x).Mm,(vE x).f1)
theorem cR {t:Expr×List Expr×List Keyword×Pos} (h:iM x=some t):x= .Call t.1 t.2.1 t.2.2.1 t.2.2.2:=fL (k:=13) (f:=fun t=> .Call t.1 t.2.1 t.2.2.1 t.2.2.2) h rfl
noncomputable def iU (x:Expr):Option (Expr×List Comprehension×Scope×Pos):=vI (Nat.beq (vE x).t 15) ((vE x).f4,(vE x).Cc,(vE x).Cd,(vE x).f1)
theorem fj {t:Expr×List Comprehension×Scope×Pos} (h:iU x=some t):x= .ListComp t.1 t.2.1 t.2.2.1 t.2.2.2:=fL (k:=14) (f:=fun t=> .ListComp t.1 t.2.1 t.2.2.1 t.2.2.2) h rfl
noncomputable def Bt (x:Expr):Option (Expr×Pos):=vI (Nat.beq (vE x).t 16) ((vE x).f4,(vE x).f1)
noncomputable def Rz (x:Expr):Option (List Expr×Nat×Pos):=vI (Nat.beq (vE x).t 17) ((vE x).lF,(vE x).f3,(vE x).f1)
noncomputable def Bs (x:Expr):Option (Expr×List Comprehension×Scope×Pos):=vI (Nat.beq (vE x).t 18) ((vE x).f4,(vE x).Cc,(vE x).Cd,(vE x).f1)
noncomputable def yh (x:Expr):Option (Expr×Expr×List Comprehension×Scope×Pos):=vI (Nat.beq (vE x).t 19) ((vE x).f4,(vE x).f5,(vE x).Cc,(vE x).Cd,(vE x).f1)
structure Li where
 t:Nat
 f0:List Expr
 f1:Expr
 f2:Pos
 f3:Operator
 f4:Expr
 f5:Expr
 f6:List Stmt
 f7:List Stmt
 f8:Expr
 f9:Option Expr
 E2:List ExceptHandler
 E3:List Stmt
 lF:Option Expr
noncomputable def W6 (x:Stmt) (n:Li):Li:=x.casesOn (fun Z Z Z Z Z Z Z Z Z Z=>n) (fun Z Z Z Z Z Z Z Z Z Z=>n) (fun Z Z Z Z Z Z Z Z Z Z Z=>n) (fun v p=>{n with t:=7,f2:=p,f9:=v}) (fun Z Z=>n) (fun t v p=>{n with t:=1,f0:=t,f1:=v,f2:=p}) (fun Z Z Z Z Z Z Z=>n) (fun t o v p=>{n with t:=2,f1:=t,f2:=p,f3:=o,f4:=v}) (fun Z Z Z Z Z=>n) (fun t i b o p=>{n with t:=5,f2:=p,f5:=t,f6:=b,f7:=o,f8:=i}) (fun Z Z Z Z Z=>n) (fun c b o p=>{n with t:=6,f2:=p,f5:=c,f6:=b,f7:=o}) (fun c a b p=>{n with t:=4,f2:=p,f5:=c,f6:=a,f7:=b}) (fun Z Z Z=>n) (fun Z Z Z=>n) (fun Z Z Z=>n) (fun e c p=>{n with t:=9,f2:=p,f9:=e,lF:=c}) (fun b h o f p=>{n with t:=8,f2:=p,f6:=b,f7:=o,E2:=h,E3:=f}) (fun Z Z Z Z Z=>n) (fun Z Z Z=>n) (fun Z Z=>n) (fun Z Z Z Z=>n) (fun Z Z=>n) (fun Z Z=>n) (fun v p=>{n with t:=3,f2:=p,f5:=v}) (fun Z=>n) (fun Z=>n) (fun Z=>n)
noncomputable def vS (x:Stmt):Li:=W6 x ⟨0,[],default,default,default,default,default,[],[],default,none,[],[],none⟩
noncomputable def bS (r:Li):List Stmt:=[.Assign r.f0 r.f1 r.f2,.AugAssign r.f1 r.f3 r.f4 r.f2,.Expr r.f5 r.f2,.If r.f5 r.f6 r.f7 r.f2,.For r.f5 r.f8 r.f6 r.f7 r.f2,.While r.f5 r.f6 r.f7 r.f2,.Return r.f9 r.f2,.Try r.f6 r.E2 r.f7 r.E3 r.f2,.Raise r.f9 r.lF r.f2]
theorem H6 (x:Stmt) (h:Nat.beq (vS x).t (k+1)=true):aL (bS (vS x)) k=some x:=by cases x<;>first|exact nof h|(cases ie h;rfl)
theorem j3 {x:Stmt} {f:α→Stmt} (h:vI (Nat.beq (vS x).t (k+1)) u=some t) (e:aL (bS (vS x)) k=some (f u)):x=f t:=Er h fun b z=>bw ((H6 x b).symm.trans (e.trans (congrArg (fun u=>some (f u)) z)))
noncomputable def gf (x:Stmt):Option (List Expr×Expr×Pos):=vI (Nat.beq (vS x).t 1) ((vS x).f0,(vS x).f1,(vS x).f2)
theorem dh {x:Stmt} {t:List Expr×Expr×Pos} (h:gf x=some t):x= .Assign t.1 t.2.1 t.2.2:=j3 (k:=0) (f:=fun t=> .Assign t.1 t.2.1 t.2.2) h rfl
noncomputable def jw (x:Stmt):Option (Expr×Operator×Expr×Pos):=vI (Nat.beq (vS x).t 2) ((vS x).f1,(vS x).f3,(vS x).f4,(vS x).f2)
theorem jc {x:Stmt} {t:Expr×Operator×Expr×Pos} (h:jw x=some t):x= .AugAssign t.1 t.2.1 t.2.2.1 t.2.2.2:=j3 (k:=1) (f:=fun t=> .AugAssign t.1 t.2.1 t.2.2.1 t.2.2.2) h rfl
noncomputable def wExpr (x:Stmt):Option (Expr×Pos):=vI (Nat.beq (vS x).t 3) ((vS x).f5,(vS x).f2)
theorem Bu {x:Stmt} {t:Expr×Pos} (h:wExpr x=some t):x= .Expr t.1 t.2:=j3 (k:=2) (f:=fun t=> .Expr t.1 t.2) h rfl
noncomputable def SP (x:Stmt):Option (Expr×List Stmt×List Stmt×Pos):=vI (Nat.beq (vS x).t 4) ((vS x).f5,(vS x).f6,(vS x).f7,(vS x).f2)
theorem Hw {x:Stmt} {t:Expr×List Stmt×List Stmt×Pos} (h:SP x=some t):x= .If t.1 t.2.1 t.2.2.1 t.2.2.2:=j3 (k:=3) (f:=fun t=> .If t.1 t.2.1 t.2.2.1 t.2.2.2) h rfl
noncomputable def Hv (x:Stmt):Option (Expr×Expr×List Stmt×List Stmt×Pos):=vI (Nat.beq (vS x).t 5) ((vS x).f5,(vS x).f8,(vS x).f6,(vS x).f7,(vS x).f2)
theorem wN {x:Stmt} {t:Expr×Expr×List Stmt×List Stmt×Pos} (h:Hv x=some t):x= .For t.1 t.2.1 t.2.2.1 t.2.2.2.1 t.2.2.2.2:=j3 (k:=4) (f:=fun t=> .For t.1 t.2.1 t.2.2.1 t.2.2.2.1 t.2.2.2.2) h rfl
noncomputable def Bw (x:Stmt):Option (Expr×List Stmt×List Stmt×Pos):=vI (Nat.beq (vS x).t 6) ((vS x).f5,(vS x).f6,(vS x).f7,(vS x).f2)
theorem yk {x:Stmt} {t:Expr×List Stmt×List Stmt×Pos} (h:Bw x=some t):x= .While t.1 t.2.1 t.2.2.1 t.2.2.2:=j3 (k:=5) (f:=fun t=> .While t.1 t.2.1 t.2.2.1 t.2.2.2) h rfl
noncomputable def wO (x:Stmt):Option (Option Expr×Pos):=vI (Nat.beq (vS x).t 7) ((vS x).f9,(vS x).f2)
theorem nO {x:Stmt} {t:Option Expr×Pos} (h:wO x=some t):x= .Return t.1 t.2:=j3 (k:=6) (f:=fun t=> .Return t.1 t.2) h rfl
noncomputable def Ld (x:Stmt):Option (List Stmt×List ExceptHandler×List Stmt×List Stmt×Pos):=vI (Nat.beq (vS x).t 8) ((vS x).f6,(vS x).E2,(vS x).f7,(vS x).E3,(vS x).f2)
theorem DB {x:Stmt} {t:List Stmt×List ExceptHandler×List Stmt×List Stmt×Pos} (h:Ld x=some t):x= .Try t.1 t.2.1 t.2.2.1 t.2.2.2.1 t.2.2.2.2:=j3 (k:=7) (f:=fun t=> .Try t.1 t.2.1 t.2.2.1 t.2.2.2.1 t.2.2.2.2) h rfl
noncomputable def Bv (x:Stmt):Option (Option Expr×Option Expr×Pos):=vI (Nat.beq (vS x).t 9) ((vS x).f9,(vS x).lF,(vS x).f2)
theorem yj {x:Stmt} {t:Option Expr×Option Expr×Pos} (h:Bv x=some t):x= .Raise t.1 t.2.1 t.2.2:=j3 (k:=8) (f:=fun t=> .Raise t.1 t.2.1 t.2.2) h rfl
noncomputable def zX (x:Expr):Bool:=(q_ x).isSome
noncomputable def isStar (x:Expr):Bool:=(Bt x).isSome
noncomputable def lW (x:Expr):Bool:=(iM x).isSome
noncomputable def zY (x:Expr):Bool:=(nL x).isSome
noncomputable def isSet (x:Expr):Bool:=(Rz x).isSome
noncomputable def rZ (x:Expr):Bool:=(iU x).isSome||((Bs x).isSome||(yh x).isSome)
noncomputable def Dv (x:Nat) (s:Str):Bool:=match aL j5 x with
 |some t=>kL t s
 |none=>false
noncomputable def nh (sc:Scope) (s:Str) (k:NameKind):Bool:=decide (sc.names.lookup s=some k)&&!kL s (Str.ofString "__debug__")
noncomputable def gE (sc:Scope) (x:Nat) (s:Str):Bool:=Dv x s&&nh sc s .local
noncomputable def Bh (sc:Scope) (x:Nat) (s:Str):Bool:=Dv x s&&nh sc s .cell
noncomputable def uE (scope sc:Scope):Scope:=
 {scope with names:=scope.names.map fun (n,k)=>if (k== .free&&sc.kind== .function&&sc.names.lookup n==some .cell) then (n,.cell) else (n,k)}
section
variable (K:Frag)
mutual
noncomputable def LH:DV→Value→Bool
 | .none,v=>match v with| .none=>true|_=>false
 | .bool b,v=>match v with| .bool c=>(b&&c)||(!b&&!c)|_=>false
 | .int i,v=>match v with| .int j _=>ck i j|_=>false
 | .str i,v=>match v with| .str j _=>kL i j|_=>false
 | .fn a,v=>match v with| .ref b=>Nat.beq a b|_=>false
 | .aj _ _,_=>false
 | .ai l,v=>match v with
  | .ref a=>match K.lookup a with
   |some o=>match o.cls with
    | .type t=>t=="tuple" &&match o.data with
     | .seq vs _=>Dw l vs.toList
     |_=>false
    |_=>false
   |none=>false
  |_=>false
noncomputable def Dw:List DV→List Value→Bool
 |[],vs=>match vs with|[]=>true|_::_=>false
 |d::ds,vs=>match vs with|v::vs=>LH d v&&Dw ds vs|[]=>false
end
noncomputable def Eo (sc:Scope) (d:DV) (s:Str):Bool:=nh sc s .globalImplicit&&match nsIn K mainGlobals s with
 |some o=>match o with
  |some v=>LH K d v
  |none=>false
 |none=>false
noncomputable def Dt (sc:Scope) (s:Str) (n:Str):Bool:=kL s n&&(nh sc s .globalImplicit&&match nsIn K mainGlobals s with
 |some o=>match o with
  |some _=>false
  |none=>true
 |none=>false)
noncomputable def WT (d:DV) (c:Const):Bool:=match d with
 | .none=>match c with| .none=>true|_=>false
 | .bool b=>match c with| .bool c=>(b&&c)||(!b&&!c)|_=>false
 | .int i=>match c with| .int j=>ck i j|_=>false
 | .str i=>match c with| .str j=>kL i j|_=>false
 |_=>false
noncomputable def ED:yl→Operator
 | .add=> .Add
 | .sub=> .Sub
 | .mul=> .Mult
 | .mod=> .Mod
 | .fdiv=> .FloorDiv
 | .band=> .BitAnd
 | .bor=> .BitOr
noncomputable def Ao (op:yl):Bool:=match op with
 | .mul=>false
 |_=>true
noncomputable def SG:wV→CmpOp
 | .eq=> .Eq
 | .ne=> .NotEq
 | .lt=> .Lt
 | .le=> .LtE
 | .gt=> .Gt
 | .ge=> .GtE
 | .is=> .Is
 | .vN=> .IsNot
 | .yq=> .In
 | .eU=> .NotIn
noncomputable def oh (q:ME→Expr→Bool):List ME→List Expr→Bool
 |[],es=>match es with|[]=>true|_::_=>false
 |m::l,es=>match es with|e::es=>q m e&&(oh q l es&&!isStar e)|[]=>false
noncomputable def wJ (q:ME→Expr→Bool):List (ME×ME)→List (Option Expr)→List Expr→Bool
 |[],ks,vs=>match ks with|[]=>(match vs with|[]=>true|_::_=>false)|_::_=>false
 |p::l,ks,vs=>match ks with
  |k::ks=>match k with
   |some k=>match vs with
    |v::vs=>q p.1 k&&(q p.2 v&&wJ q l ks vs)
    |[]=>false
   |none=>false
  |[]=>false
noncomputable def s7 (sc:Scope):List Nat→List Expr→Bool
 |[],es=>e7 es
 |x::l,es=>match es with
  |e::es=>bM (cY e) fun t=>gE sc x t.1&&s7 sc l es
  |[]=>false
noncomputable def Rn (sc:Scope) (xs:List Nat) (e:Expr):Bool:=match xs with
 |[]=>false
 |x::xs=>match xs with
  |[]=>bM (cY e) fun t=>gE sc x t.1
  |y::xs=>bM (nL e) fun t=>s7 sc (x::y::xs) t.1
noncomputable def yf (q:ME→Expr→Bool) (sc:Scope) (ig:Bool) (m:ME) (e:Expr):Bool:=match ig with
 |true=>bM (iM e) fun t=>e7 t.2.2.1&&bM (cY t.1) fun u=>bM (one t.2.1) fun a=>Dt K sc u.1 (Str.ofString "range")&&(q m a&&!isStar a)
 |false=>q m e&&!isSet e
noncomputable def Du (q:ME→Expr→Bool) (m:Option ME) (es:List Expr):Bool:=match m with
 |none=>e7 es
 |some m=>bM (one es) fun e=>q m e
noncomputable def pS (sc scope:Scope) (fv:List Nat):Bool:=
 decide (scope.kind= .function)&&((scope.names.all fun x=>!decide (x.2= .cell)&&((!decide (x.2= .local)||decide (scope.names.lookup x.1=some .local))&&(!decide (x.2= .free)||(decide (sc.names.lookup x.1=some .cell)&&fv.any fun y=>decide (nm y=x.1)))))&&
  (fv.all fun x=>decide (scope.names.lookup (nm x)=some .free)))
noncomputable def oU (sc:Scope):Bool:=decide (sc.names.lookup (Str.ofString "one")=some .cell)
noncomputable def bmN (m:BM):Nat:=match m with
 | .append=>0
 | .extend=>1
 | .get=>2
 | .split=>3
 | .count=>4
noncomputable def kP (q:Scope→ME→Expr→Bool) (sc:Scope) (m:ME) (e:Expr):Bool:=match m with
 | .l x=>bM (cY e) fun t=>gE sc x t.1
 | .lc x=>bM (cY e) fun t=>Bh sc x t.1
 | .c d=>bM (pC e) fun t=>WT d t.1
 | .g d=>bM (cY e) fun t=>Eo K sc d t.1
 | .bX m a=>bM (dW e) fun t=>q sc m t.1&&(Dv a t.2.1&&!lW t.1)
 | .sub m i=>bM (dX e) fun t=>q sc m t.1&&(q sc i t.2.1&&!zX t.2.1)
 | .n_ m b=>bM (dX e) fun t=>bM (q_ t.2.1) fun u=>bM u.2.1 fun b'=>u.1.isNone&&(u.2.2.1.isNone&&(q sc m t.1&&q sc b b'))
 | .qT m b=>bM (dX e) fun t=>bM (q_ t.2.1) fun u=>bM u.1 fun b'=>u.2.1.isNone&&(u.2.2.1.isNone&&(q sc m t.1&&q sc b b'))
 | .bin op l r=>bM (Bp e) fun t=>decide (t.2.1=ED op)&&(q sc l t.1&&q sc r t.2.2.1)
 | .neg m=>bM (nM e) fun t=>decide (t.1= .USub)&&q sc m t.2.1
 | .not m=>bM (nM e) fun t=>decide (t.1= .Not)&&q sc m t.2.1
 | .cmp op l r=>bM (s9 e) fun t=>bM (one t.2.1) fun o=>bM (one t.2.2.1) fun b=>decide (o=SG op)&&(q sc l t.1&&(q sc r b&&!behindInMarks o b))
 | .and l=>bM (qZ e) fun t=>decide (t.1= .And)&&oh (q sc) l t.2.1
 | .or l=>bM (qZ e) fun t=>decide (t.1= .Or)&&oh (q sc) l t.2.1
 | .ite c a b=>bM (Br e) fun t=>q sc c t.1&&(q sc a t.2.1&&q sc b t.2.2.1)
 | .ai l=>bM (nL e) fun t=>oh (q sc) l t.1
 | .lst l=>bM (Es e) fun t=>oh (q sc) l t.1
 | .dct l=>bM (Ep e) fun t=>wJ (q sc) l t.1 t.2.1
 | .call _ _ f as=>bM (iM e) fun t=>e7 t.2.2.1&&bM (cY t.1) fun u=>Eo K sc (.fn f) u.1&&(oh (q sc) as t.2.1&&keepIn K (.ref f))
 | .kU _ _ f as=>bM (iM e) fun t=>oU sc&&(e7 t.2.2.1&&bM (cY t.1) fun u=>Eo K sc (.fn f) u.1&&(oh (q sc) as t.2.1&&keepIn K (.ref f)))
 | .new f as=>bM (iM e) fun t=>e7 t.2.2.1&&bM (cY t.1) fun u=>Eo K sc (.fn f) u.1&&(oh (q sc) as t.2.1&&keepIn K (.ref f))
 | .eL o m as=>bM (iM e) fun t=>e7 t.2.2.1&&bM (dW t.1) fun u=>q sc o u.1&&(Dv m u.2.1&&(oh (q sc) as t.2.1&&(!lW u.1&&(Nat.beq u.2.2.endLine t.2.2.2.line&&Nat.blt t.2.1.length 20))))
 | .bm o m as=>bM (iM e) fun t=>e7 t.2.2.1&&bM (dW t.1) fun u=>q sc o u.1&&(Dv (bmN m) u.2.1&&(oh (q sc) as t.2.1&&(!lW u.1&&(Nat.beq u.2.2.endLine t.2.2.2.line&&Nat.blt t.2.1.length 20))))
 | .len m=>bM (iM e) fun t=>e7 t.2.2.1&&bM (cY t.1) fun u=>bM (one t.2.1) fun a=>Dt K sc u.1 (Str.ofString "len")&&(q sc m a&&!isStar a)
 | .tupleOf m=>bM (iM e) fun t=>e7 t.2.2.1&&bM (cY t.1) fun u=>bM (one t.2.1) fun a=>Dt K sc u.1 (Str.ofString "tuple")&&(q sc m a&&!isStar a)
 | .comp xs elt ig it cond fv=>bM (iU e) fun t=>bM (one t.2.1) fun g=>decide (g.is_async=0)&&(pS sc t.2.2.1 fv&&(Rn (uE t.2.2.1 sc) xs g.target&&(yf K (q sc) sc ig it g.iter&&(q (uE t.2.2.1 sc) elt t.1&&Du (q (uE t.2.2.1 sc)) cond g.ifs))))
 | .bad=>true
noncomputable def cD:Nat→Scope→ME→Expr→Bool
 |0=>fun Z Z Z=>false
 |n+1=>kP K (cD n)
noncomputable def cF (q:MS→Stmt→Bool):List MS→List Stmt→Bool
 |[],ts=>match ts with|[]=>true|_::_=>false
 |m::l,ts=>match m with
  | .bad=>true
  |m=>match ts with|t::ts=>q m t&&cF q l ts|[]=>false
noncomputable def Q_ (h:List MS):Bool:=match h with
 |[]=>false
 |m::_=>match m with
  | .ret e=>bM e fun e=>match e with
   | .c d=>isIn d
   | .neg e=>match e with
    | .c d=>isIn d
    |_=>false
   |_=>false
  |_=>false
noncomputable def WU (q:List MS→List Stmt→Bool) (sc:Scope) (h:List MS) (x:ExceptHandler):Bool:=match x with
 | .ExceptHandler ty n b _=>n.isNone&&bM ty fun e=>bM (cY e) fun u=>Eo K sc (.fn H9) u.1&&(q h b&&Q_ h)
noncomputable def rm (sc:Scope) (A:ME→Expr→Bool) (q:MS→Stmt→Bool) (m:MS) (t:Stmt):Bool:=match m with
 | .b7 x m=>bM (gf t) fun t=>bM (one t.1) fun u=>bM (cY u) fun u=>gE sc x u.1&&(A m t.2.1&&!rZ t.2.1)
 | .mJ x m=>bM (gf t) fun t=>bM (one t.1) fun u=>bM (cY u) fun u=>bM (iU t.2.1) fun l=>gE sc x u.1&&(A m t.2.1&&(Nat.beq u.2.line l.2.2.2.line&&!(l.2.2.1.names.any fun (n,k)=>n==u.1&&(k== .local||k== .cell))))
 | .kc x m=>bM (gf t) fun t=>bM (one t.1) fun u=>bM (cY u) fun u=>Bh sc x u.1&&A m t.2.1
 | .a_ o a m=>bM (gf t) fun t=>bM (one t.1) fun u=>bM (dW u) fun u=>A m t.2.1&&(A o u.1&&(Dv a u.2.1&&!rZ t.2.1))
 | .cS o i m=>bM (gf t) fun t=>bM (one t.1) fun u=>bM (dX u) fun u=>A m t.2.1&&(A o u.1&&A i u.2.1)
 | .wY xs m=>bM (gf t) fun t=>bM (one t.1) fun u=>bM (nL u) fun u=>s7 sc xs u.1&&(A m t.2.1&&(!rZ t.2.1&&!zY t.2.1))
 | .aug x op m=>bM (jw t) fun t=>bM (cY t.1) fun u=>gE sc x u.1&&((decide (t.2.1=ED op)&&Ao op)&&A m t.2.2.1)
 | .w7 o i op m=>bM (jw t) fun t=>bM (dX t.1) fun u=>A o u.1&&(A i u.2.1&&((decide (t.2.1=ED op)&&Ao op)&&(A m t.2.2.1&&!zX u.2.1)))
 | .ex m=>bM (wExpr t) fun t=>A m t.1&&!rZ t.1
 | .iff c a b=>bM (SP t) fun t=>A c t.1&&(cF q a t.2.1&&cF q b t.2.2.1)
 | .cj x m b=>bM (Hv t) fun t=>bM (cY t.1) fun u=>e7 t.2.2.2.1&&(gE sc x u.1&&(yf K A sc true m t.2.1&&cF q b t.2.2.1))
 | .forL x m b=>bM (Hv t) fun t=>bM (cY t.1) fun u=>e7 t.2.2.2.1&&(gE sc x u.1&&(yf K A sc false m t.2.1&&cF q b t.2.2.1))
 | .yv c b=>bM (Bw t) fun t=>e7 t.2.2.1&&(A c t.1&&cF q b t.2.1)
 | .ret m=>bM (wO t) fun t=>match m with
  |none=>t.1.isNone
  |some m=>bM t.1 fun v=>A m v
 | .yg b h=>bM (Ld t) fun t=>e7 t.2.2.1&&(e7 t.2.2.2.1&&bM (one t.2.1) fun x=>cF q b t.1&&WU K (cF q) sc h x)
 | .cu as=>bM (Bv t) fun t=>t.2.1.isNone&&bM t.1 fun e=>bM (iM e) fun c=>e7 c.2.2.1&&bM (cY c.1) fun u=>Eo K sc (.fn H9) u.1&&oh A as c.2.1
 | .bad=>true
noncomputable def eV (sc:Scope):Nat→MS→Stmt→Bool
 |0=>fun Z Z=>false
 |n+1=>rm K sc (cD K n sc) (eV sc n)
end
end
section
variable {Q:zQ} {m:ME} {x:Expr}
structure Gd (w:World) (base g:Heap) (outer:List Env) (L:Addr) (env:Env):Prop where
 B:∃A₀,Below A₀ base outer g
 X:(zk w).In g
 T:∃mg mb,TopRead V0 (looseW V0 LOO) mg mb g
 hf:env.frame=some L
 hke:env.scope.kind= .function
 N:∀e∈outer,∀b o,e.frame=some b→g.get? b=some o→∃es ep,o.data= .dict es ep
structure Cx.Ok (w:World) (c:Cx) (n:Nat):Prop where
 G:Gd w c.base c.g c.outer c.L c.fe
 hk:c.ev.scope.kind= .function
 hg:c.ev.globals=mainGlobals
 hb:c.ev.builtins=builtinsNs
 hd:c.dp+n<recursionLimit
 hu:c.un+10*n+300<cLine
 tp:oU c.ev.scope=true→c.outer=[]
theorem Cx.Ok.down {w:World} {c:Cx} {n:Nat} (o:c.Ok w (n+1)):c.Ok w n:=⟨o.G,o.hk,o.hg,o.hb,Nat.lt_of_succ_lt o.hd,by have:=o.hu;exact PB this,o.tp⟩
def Cx.Made (c:Cx) (W:Wd) (h:Heap) (v:Value):Prop:=∃e t ob,v= .ref e∧h.get? e=some ob∧ob.cls= .ref H9∧ob.data= .fields #[.ref t,.none,.none,.none,.bool false,.none]∧c.g.get? e=none∧∀p∈W.led++c.ex,p.1≠e
structure Cx.BU (w:World) (c:Cx) (W:Wd) (σ:ah) (B:Heap):Prop where
 cells:j6 w W σ B
 led:∀p∈W.led++c.ex,B.get? p.1=some p.2∧p.1≠c.L∧c.g.get? p.1=none
 jl:∀p∈c.ex,∀q∈W.led,p.1≠q.1
 kp:∀b o,c.g.get? b=some o→(∀e∈c.outer,e.frame≠some b)→B.get? b=some o
def Cx.yF (w:World) (c:Cx) (W:Wd) (σ:ah) (h₀ h:Heap):Prop:=∃B,c.BU w W σ B∧aX h₀ B∧B.StaysIn h∧c.g.UpToSlots h
def Cx.Tr (w:World) (c:Cx) (W:Wd) (σ:ah) (h₀ h:Heap) (v:Value):Prop:=∃e B a0,v= .ref e∧Heap.FlyingW B (c.fe::c.outer) e (.ref H9) a0 h∧c.BU w W σ B∧aX h₀ B∧c.g.UpToSlots h
section
variable (w:World) (c:Cx) (W:Wd) (σ:ah) (ls:Lc) (s:Shared)
def KV (Q:zQ) (d:DV) (I:ah):Prop:=∀M K tk v,c.aC w M I ls K→Go W σ s.heap M I K→aP M.ρ K d v→Q v (sh s K tk)
def SX (Q:List Value→Shared→Prop) (d:zL) (I:ah):Prop:=∀M K tk v,c.aC w M I ls K→Go W σ s.heap M I K→aO M.ρ K d v→Q v (sh s K tk)
inductive iy (ρ:gJ) (h:Heap):List (DV×DV)→List (Value×Value)→Prop
 |nil:iy ρ h [] []
 |cons {a b:DV} {u v:Value} {l:zD} {vs:List (Value×Value)}:aP ρ h a u→aP ρ h b v→iy ρ h l vs→iy ρ h ((a,b)::l) ((u,v)::vs)
def SW (Q:List (Value×Value)→Shared→Prop) (d:zD) (I:ah):Prop:=∀M K tk v,c.aC w M I ls K→Go W σ s.heap M I K→iy M.ρ K d v→Q v (sh s K tk)
def KB (Q:Bool→Shared→Prop) (b:Bool) (I:ah):Prop:=∀M K tk,c.aC w M I ls K→Go W σ s.heap M I K→Q b (sh s K tk)
def SR (ρ:gJ) (h:Heap) (fl:Fl) (f:Flow):Prop:=match fl with
 | .next=>f= .next
 | .ret d=>∃v,f= .ret v∧aP ρ h d v
def KS (Q:Flow→Shared→Prop) (fl:Fl) (I:ah) (i:Lc):Prop:=∀M K tk f,c.aC w M I i K→Go W σ s.heap M I K→SR M.ρ K fl f→Q f (sh s K tk)
def KX (E:zQ) (I:ah):Prop:=∀M K tk v,c.aC w M I [] K→Go W σ s.heap M I K→c.Made M K v→E v (sh s K tk)
def KY (E:zQ) (I:ah):Prop:=∀M K tk v,Ext W σ M I→c.Tr w M I s.heap K v→E v (sh s K tk)
def KZ (Q:Flow→Shared→Prop) (d:DV) (I:ah):Prop:=∀M K tk v,c.yF w M I s.heap K→Ext W σ M I→aP M.ρ K d v→Q (.ret v) (sh s K tk)
def SY (Q:zQ) (d:DV) (I:ah):Prop:=∀M K tk v,(c.outer=[]→c.aC w M I ls K)→Go W σ s.heap M I K→aP M.ρ K d v→Q v (sh s K tk)
def fk (Q E:zQ) (r:Rs) (I:ah) (_:Lc):Prop:=match r with
 | .v d=>KV w c W σ ls s Q d I
 | .y=>KY w c W σ s E I
 | .z d=>SY w c W σ ls s Q d I
 |_=>False
def HT (Q:List Value→Shared→Prop) (r:Rs) (I:ah) (_:Lc):Prop:=match r with
 | .vs d=>SX w c W σ ls s Q d I
 |_=>False
def HQ (Q:List (Value×Value)→Shared→Prop) (r:Rs) (I:ah) (_:Lc):Prop:=match r with
 | .kv d=>SW w c W σ ls s Q d I
 |_=>False
def HP (D:Addr) (j:Nat) (kvs₀:List (Str×Value)) (Q:Shared→Prop) (r:Rs) (I:ah) (_:Lc):Prop:=match r with
 | .kv d=>∀M K tk od vs c6,({c with ex:=(D,od)::c.ex}:Cx).aC w M I ls K→Go W σ s.heap M I K→iy M.ρ K d vs→Carries (strKind pr w) vs c6→od.IsDictOf (strKind pr w) (merged kvs₀ c6)→vs.length=j→Q (sh s K tk)
 |_=>False
def BJ (Q:Bool→Shared→Prop) (r:Rs) (I:ah) (_:Lc):Prop:=match r with
 | .b b=>KB w c W σ ls s Q b I
 |_=>False
def fM (Q:Flow→Shared→Prop) (E:zQ) (r:Rs) (I:ah) (i:Lc):Prop:=match r with
 | .f fl=>KS w c W σ s Q fl I i
 | .x=>KX w c W σ s E I
 | .y=>KY w c W σ s E I
 | .z d=>KZ w c W σ s Q d I
 |_=>False
end
section
variable {w:World} {c:Cx} {W J:Wd} {σ C:ah} {ls:Lc} {s:Shared} {F:Heap} {tk₁:Nat} {o:RR}
theorem Cx.yF.pre {h₀ K:Heap} (S:c.yF w W σ F K) (t:aX h₀ F):c.yF w W σ h₀ K:=Exists.imp (fun B h=>⟨h.1,t.trans h.2.1,h.2.2⟩) S
theorem Cx.Tr.pre {h₀ K:Heap} {v:Value} (S:c.Tr w W σ F K v) (t:aX h₀ F):c.Tr w W σ h₀ K v:=Exists.imp (fun e h=>Exists.imp (fun B h=>Exists.imp (fun a0 h=>⟨h.1,h.2.1,h.2.2.1,t.trans h.2.2.2.1,h.2.2.2.2⟩) h) h) S
theorem fk.then {E:zQ} (p:ao (fk w c W σ ls s Q E) o) (g:Go W σ s.heap J C F):ao (fk w c J C ls (sh s F tk₁) Q E) o:=p.mono fun r I l' k=>by
 cases r with
 |v d=>exact fun M K tk v U g' r=>k M K tk v U (g.trans g') r
 |y=>exact fun M K tk v e' r=>k M K tk v (g.e.trans e') (r.pre g.t)
 |z d=>exact fun M K tk v U g' r=>k M K tk v U (g.trans g') r
 |_=>exact k.elim
theorem BJ.then {Q:Bool→Shared→Prop} (p:ao (BJ w c W σ ls s Q) o) (g:Go W σ s.heap J C F):ao (BJ w c J C ls (sh s F tk₁) Q) o:=p.mono fun r I l' k=>by
 cases r with
 |b d=>exact fun M K tk U g'=>k M K tk U (g.trans g')
 |_=>exact k.elim
theorem fM.then {Q:Flow→Shared→Prop} {E:zQ} (p:ao (fM w c W σ s Q E) o) (g:Go W σ s.heap J C F):ao (fM w c J C (sh s F tk₁) Q E) o:=p.mono fun r I l' k=>by
 cases r with
 |f d=>exact fun M K tk v U g' r=>k M K tk v U (g.trans g') r
 |x=>exact fun M K tk v U g' r=>k M K tk v U (g.trans g') r
 |y=>exact fun M K tk v e' r=>k M K tk v (g.e.trans e') (r.pre g.t)
 |z d=>exact fun M K tk v U g' r=>k M K tk v (U.pre g.t) (g.e.trans g') r
 |_=>exact k.elim
theorem fk.now {E:zQ} {d:DV} {v:Value} {l':Lc} (p:ao (fk w c W σ ls s Q E) (.ok (.v d) C l')) (S:c.aC w J C ls F) (g:Go W σ s.heap J C F) (r:aP J.ρ F d v):Q v (sh s F tk₁):=p J F tk₁ v S g r
end
def BodyOk (w:World) (c:Cx) (body:List Stmt) (σ:ah) (ls:Lc) (Ψ:Fl→ah→Lc→Prop):Prop:=
 ∀(ex:zA) (W:Wd) (s:Shared) (Q:Flow→Shared→Prop) (E:zQ),({c with ex:=ex}:Cx).aC w W σ ls s.heap→(∀fl I i,Ψ fl I i→KS w {c with ex:=ex} W σ s Q fl I i)→zw w c (execs body c.ev) Q E s
def yH (w:World) (c:Cx) (x:Expr) (σ:ah) (ls:Lc) (Ψ:Bool→ah→Prop):Prop:=
 ∀(ex:zA) (W:Wd) (s:Shared) (Q:Bool→Shared→Prop) (E:zQ),({c with ex:=ex}:Cx).aC w W σ ls s.heap→(∀b I,Ψ b I→KB w {c with ex:=ex} W σ ls s Q b I)→zw w c (isTrue x c.ev (eval x c.ev)) Q E s
def pI (w:World) (c:Cx) (x:Expr) (σ:ah) (ls:Lc) (Ψ:DV→ah→Prop):Prop:=
 ∀(ex:zA) (W:Wd) (s:Shared) (Q E:zQ),({c with ex:=ex}:Cx).aC w W σ ls s.heap→(∀d I,Ψ d I→KV w {c with ex:=ex} W σ ls s Q d I)→zw w c (eval x c.ev) Q E s
noncomputable def mG (w:World) (c:Cx) (x:Nat) (g:zO) (body:List Stmt) (Ψ:Fl→ah→Lc→Prop):List DV→ah→Lc→Prop
 |[],σ,ls=>Ψ .next σ ls
 |d::ds,σ,ls=>BodyOk w c body σ (aV ls x d) fun fl C V=>match fl with
  | .next=>eW C g=true∧mG w c x g body Ψ ds C V
  | .ret v=>Ψ (.ret v) C V
noncomputable def lO (w:World) (c:Cx) (test:Expr) (body:List Stmt) (Ψ:Fl→ah→Lc→Prop):Nat→ah→Lc→Prop
 |0,_,_=>False
 |k+1,σ,ls=>yH w c test σ ls fun b C=>match b with
  |false=>Ψ .next C ls
  |true=>BodyOk w c body C ls fun fl O D_=>match fl with
   | .next=>lO w c test body Ψ k O D_
   | .ret v=>Ψ (.ret v) O D_
noncomputable def fc:Lc→Lc→Lc
 |[],ls=>ls
 |p::l,ls=>fc l (aV ls p.1 p.2)
noncomputable def tP (xs:List Nat) (d:DV) (ls:Lc):Option Lc:=match xs with
 |[]=>none
 |x::xs=>match xs with
  |[]=>some (aV ls x d)
  |y::xs=>match d with
   | .ai ds=>match eS (x::y::xs) ds with
    |some bs=>some (fc bs ls)
    |none=>none
   |_=>none
noncomputable def iu (w:World) (cc:Cx→Prop) (xs:List Nat) (g:zO) (elt:Expr) (ifs:List Expr):(List DV→ah→Prop)→List DV→ah→Lc→Prop
 |Ψ,[],σ,_=>Ψ [] σ
 |Ψ,d::ds,σ,ls=>∃Y,tP xs d ls=some Y∧match ifs with
  |[]=>∀c,cc c→pI w c elt σ Y fun v O=>eW O g=true∧iu w cc xs g elt ifs (fun vs σ=>Ψ (v::vs) σ) ds O Y
  |q::_=>∀c,cc c→yH w c q σ Y fun b C=>eW C g=true∧match b with
   |true=>∀c,cc c→pI w c elt C Y fun v O=>eW O g=true∧iu w cc xs g elt ifs (fun vs σ=>Ψ (v::vs) σ) ds O Y
   |false=>iu w cc xs g elt ifs Ψ ds C Y
def HR (Ψ:Fl→ah→Lc→Prop) (r:Rs) (σ:ah) (ls:Lc):Prop:=match r with
 | .f fl=>Ψ fl σ ls
 |_=>False
def LO (Ψ:List DV→ah→Prop) (r:Rs) (σ:ah) (_:Lc):Prop:=match r with
 | .vs vs=>Ψ vs σ
 |_=>False
noncomputable def s8 (D:Addr) (x:Sem Value×Sem Value) (_:PUnit):Sem (ForInStep PUnit):=do
 let kv←x.1;let vv←holding [kv] x.2
 holding [kv,vv] (dictSet D kv vv)
 pure (.yield PUnit.unit)
structure ic (w:World) (n:Nat) (q:zT):Prop where
 e:∀{k:Nat} {c:Cx} {W:Wd} {σ:ah} {ls:Lc} {s:Shared} {Q E:zQ} {m:ME} {x:Expr},c.Ok w n→cD (zk w) k c.ev.scope m x=true→c.aC w W σ ls s.heap→ao (fk w c W σ ls s Q E) (q (.e m) σ ls)→zw w c (eval x c.ev) Q E s
 es:∀{k:Nat} {c:Cx} {W:Wd} {σ:ah} {ls:Lc} {s:Shared} {Q:List Value→Shared→Prop} {E:zQ} {m:List ME} {x:List Expr} {pos:Pos},c.Ok w n→oh (cD (zk w) k c.ev.scope) m x=true→c.aC w W σ ls s.heap→ao (HT w c W σ ls s Q) (q (.es m) σ ls)→zw w c (spliced (backTo pos (starEach x c.ev))) Q E s
 IB:∀{σ:ah} {ls:Lc} {Z:zP},ao Z (q (.es []) σ ls)→Z (.vs []) σ ls
 kv:∀{k:Nat} {c:Cx} {W:Wd} {σ:ah} {ls:Lc} {s:Shared} {Q:List (Value×Value)→Shared→Prop} {E:zQ} {m:List (ME×ME)} {ks:List (Option Expr)} {vs:List Expr} {pos:Pos},c.Ok w n→wJ (cD (zk w) k c.ev.scope) m ks vs=true→c.aC w W σ ls s.heap→ao (HQ w c W σ ls s Q) (q (.kv m) σ ls)→zw w c (evalPairs (pairTrees ks vs c.ev pos)) Q E s
 kl:∀{k:Nat} {c:Cx} {W:Wd} {σ:ah} {ls:Lc} {s:Shared} {Q:Shared→Prop} {E:zQ} {m:List (ME×ME)} {ks:List (Option Expr)} {vs:List Expr} {pos:Pos} {D:Addr} {od:Obj} {c6:List (Str×Value)},c.Ok w n→wJ (cD (zk w) k c.ev.scope) m ks vs=true→({c with ex:=(D,od)::c.ex}:Cx).aC w W σ ls s.heap→od.IsDictOf (strKind pr w) c6→(∀p∈c.ex,p.1≠D)→c.ev.locals≠D→c6.length+m.length≤30→ao (HP w c W σ ls s D m.length c6 Q) (q (.kv m) σ ls)→
  zw w c (forIn (pairTrees ks vs c.ev pos) PUnit.unit (s8 D)) (fun u s'=>Q s') E s
 b:∀{k:Nat} {c:Cx} {W:Wd} {σ:ah} {ls:Lc} {s:Shared} {Q:Bool→Shared→Prop} {E:zQ} {m:ME} {x:Expr},c.Ok w n→cD (zk w) k c.ev.scope m x=true→c.aC w W σ ls s.heap→ao (BJ w c W σ ls s Q) (q (.b m) σ ls)→zw w c (isTrue x c.ev (eval x c.ev)) Q E s
 call:∀{c:Cx} {W:Wd} {σ:ah} {ls l₀:Lc} {s:Shared} {R:Result→Shared→Prop} {f:Addr} {ds:zL} {vs:zV},c.Ok w n→c.aC w W σ ls s.heap→aO W.ρ s.heap ds vs→ao (fk w c W σ ls s (fun v s'=>R (.ok (.ret v)) s') (fun v s'=>R (.error v) s')) (q (.call f ds) σ l₀)→codeAny (M0 w) c.A (.call (.ref f) ⟨vs,[]⟩) R s
 ss:∀{k:Nat} {c:Cx} {W:Wd} {σ:ah} {ls:Lc} {s:Shared} {Q:Flow→Shared→Prop} {E:zQ} {m:List MS} {x:List Stmt},c.Ok w n→c.ev.locals=c.L→(c.ev=c.fe∧∀m,c.ml m)→cF (eV (zk w) c.ev.scope k) m x=true→c.aC w W σ ls s.heap→ao (fM w c W σ s Q E) (q (.ss m) σ ls)→zw w c (execs x c.ev) Q E s
 fr:∀{k:Nat} {c:Cx} {σ:ah} {ls:Lc} {y:Nat} {g:zO} {ds:zL} {m:List MS} {x:List Stmt} {Ψ:Fl→ah→Lc→Prop},c.Ok w n→c.ev.locals=c.L→(c.ev=c.fe∧∀m,c.ml m)→cF (eV (zk w) c.ev.scope k) m x=true→ao (HR Ψ) (q (.cj y g ds m) σ ls)→mG w c y g x Ψ ds σ ls
 wh:∀{k j:Nat} {c:Cx} {σ:ah} {ls:Lc} {e:ME} {m:List MS} {t:Expr} {x:List Stmt} {Ψ:Fl→ah→Lc→Prop},c.Ok w n→c.ev.locals=c.L→(c.ev=c.fe∧∀m,c.ml m)→cD (zk w) j c.ev.scope e t=true→cF (eV (zk w) c.ev.scope k) m x=true→ao (HR Ψ) (q (.yv e m) σ ls)→lO w c t x Ψ n σ ls
 cp:∀{k:Nat} {sc:Scope} {cc:Cx→Prop} {σ:ah} {ls:Lc} {xs:List Nat} {g:zO} {ds:zL} {m:ME} {mc:Option ME} {x:Expr} {ifs:List Expr} {Ψ:List DV→ah→Prop},(∀c,cc c→c.Ok w n∧c.ev.scope=sc)→cD (zk w) k sc m x=true→Du (cD (zk w) k sc) mc ifs=true→ao (LO Ψ) (q (.cp xs g ds m mc) σ ls)→iu w cc xs g x ifs Ψ ds σ ls
structure yG (w:World) (n:Nat) (q:zT):Prop where
 call:∀{c:Cx} {W:Wd} {σ:ah} {ls l₀:Lc} {s:Shared} {R:Result→Shared→Prop} {f:Addr} {ds:zL} {vs:zV},c.Ok w n→c.aC w W σ ls s.heap→aO W.ρ s.heap ds vs→ao (fk w c W σ ls s (fun v s'=>R (.ok (.ret v)) s') (fun v s'=>R (.error v) s')) (q (.call f ds) σ l₀)→codeAny (M0 w) c.A (.call (.ref f) ⟨vs,[]⟩) R s
theorem Cx.Ok.le {w:World} {c:Cx} {n m:Nat} (o:c.Ok w n) (h:m≤n):c.Ok w m:=⟨o.G,o.hk,o.hg,o.hb,by have:=o.hd;exact PD this h,by have:=o.hu;exact PE this h,o.tp⟩
theorem ic.c {w:World} {n m:Nat} {q:zT} (H:ic w m q) (h:m≤n):yG w n q:=⟨fun o S r p=>H.call (o.le h) S r p⟩
section
variable {w:World} {n:Nat} {q:zT} {k:Nat} {c:Cx} {W:Wd} {σ:ah} {ls:Lc} {s:Shared} {E:zQ} {Z:zP}
theorem ic.bv (H:ic w n q) {r:DV→ah→RR} (o:c.Ok w n) (t:cD (zk w) k c.ev.scope m x=true) (S:c.aC w W σ ls s.heap) (p:ao Z (Mine.bv (q (.e m) σ ls) r))
  (h:∀d C J F tk₁ P,c.aC w J C ls F→Go W σ s.heap J C F→aP J.ρ F d P→ao Z (r d C)→Q P (sh s F tk₁)):zw w c (eval x c.ev) Q E s:=
 H.e o t S (p.bind.mono fun rs C u z=>by
  cases rs with
  |v d=>exact fun M K tk v U g rv=>h d C M K tk v U g rv z
  |_=>exact z.elim)
theorem ic.DO (H:ic w n q) {r:DV→ah→RR} (o:c.Ok w n) (t:cD (zk w) k c.ev.scope m x=true) (S:c.aC w W σ ls s.heap) (p:ao Z (Mine.DO (q (.e m) σ ls) r)) (hy:∀C,Z .y C []→KY w c W σ s E C)
  (h:∀d C J F tk₁ P,c.aC w J C ls F→Go W σ s.heap J C F→aP J.ρ F d P→ao Z (r d C)→Q P (sh s F tk₁)):zw w c (eval x c.ev) Q E s:=
 H.e o t S (p.bind.mono fun rs C u z=>by
  cases rs with
  |v d=>exact fun M K tk v U g rv=>h d C M K tk v U g rv z
  |y=>exact hy C z
  |_=>exact z.elim)
theorem ic.g6 (H:ic w n q) {Q:List Value→Shared→Prop} {m:List ME} {x:List Expr} {pos:Pos} {r:List DV→ah→RR} (o:c.Ok w n) (t:oh (cD (zk w) k c.ev.scope) m x=true) (S:c.aC w W σ ls s.heap) (p:ao Z (Mine.g6 (q (.es m) σ ls) r))
  (h:∀d C J F tk₁ P,c.aC w J C ls F→Go W σ s.heap J C F→aO J.ρ F d P→ao Z (r d C)→Q P (sh s F tk₁)):zw w c (spliced (backTo pos (starEach x c.ev))) Q E s:=
 H.es o t S (p.bind.mono fun rs C u z=>by
  cases rs with
  |vs d=>exact fun M K tk v U g rv=>h d C M K tk v U g rv z
  |_=>exact z.elim)
theorem ic.BP (H:ic w n q) {Q:List (Value×Value)→Shared→Prop} {m:List (ME×ME)} {ks:List (Option Expr)} {vs:List Expr} {pos:Pos} {r:List (DV×DV)→ah→RR} (o:c.Ok w n) (t:wJ (cD (zk w) k c.ev.scope) m ks vs=true) (S:c.aC w W σ ls s.heap) (p:ao Z (Mine.BP (q (.kv m) σ ls) r))
  (h:∀d C J F tk₁ P,c.aC w J C ls F→Go W σ s.heap J C F→iy J.ρ F d P→ao Z (r d C)→Q P (sh s F tk₁)):zw w c (evalPairs (pairTrees ks vs c.ev pos)) Q E s:=
 H.kv o t S (p.bind.mono fun rs C u z=>by
  cases rs with
  |kv d=>exact fun M K tk v U g rv=>h d C M K tk v U g rv z
  |_=>exact z.elim)
theorem ic.bb (H:ic w n q) {Q:Bool→Shared→Prop} {rt rf:ah→RR} (o:c.Ok w n) (t:cD (zk w) k c.ev.scope m x=true) (S:c.aC w W σ ls s.heap) (p:ao Z (Mine.bb (q (.b m) σ ls) rt rf))
  (h:∀b C J F tk₁,c.aC w J C ls F→Go W σ s.heap J C F→ao Z (match b with|true=>rt C|false=>rf C)→Q b (sh s F tk₁)):zw w c (isTrue x c.ev (eval x c.ev)) Q E s:=
 H.b o t S (p.bind.mono fun rs C u z=>by
  cases rs with
  |b d=>exact fun M K tk U g=>h d C M K tk U g (by cases d<;>exact z)
  |_=>exact z.elim)
theorem ic.bf (H:ic w n q) {Q Q':Flow→Shared→Prop} {m:List MS} {x:List Stmt} {r:ah→Lc→RR} (o:c.Ok w n) (hL:c.ev.locals=c.L) (hml:c.ev=c.fe∧∀m,c.ml m) (t:cF (eV (zk w) c.ev.scope k) m x=true) (S:c.aC w W σ ls s.heap) (p:ao (fM w c W σ s Q E) (Mine.bf (q (.ss m) σ ls) r))
  (hq:∀f s',f≠.next→Q f s'→Q' f s') (h:∀C V J F tk₁,c.aC w J C V F→Go W σ s.heap J C F→ao (fM w c W σ s Q E) (r C V)→Q' .next (sh s F tk₁)):zw w c (execs x c.ev) Q' E s:=
 H.ss o hL hml t S (p.bind.mono fun rs C l₁ z=>by
  cases rs with
  |f fl=>cases fl with
   |next=>exact fun M K tk f U g e=>(show f= .next from e)▸h C l₁ M K tk U g z
   |ret d=>exact fun M K tk f U g e=>hq _ _ (by refine az e fun v iY Z=>?_;subst iY;exact fun q=>nomatch q) (z M K tk f U g e)
  |x=>exact z
  |y=>exact z
  |z d=>exact z.elim
  |_=>exact z.elim)
end
end
section
open scoped Classical
variable {q:DV→DV→Option Bool} {f:Nat} {v:Value} {l:zD} {K:Type} {B:K} {a:Addr} {KK:Type} {dv:KK→DV} {is:Heap→KK→Addr→Prop} {k:List (KK×Addr×Value)}
theorem Rk {a b:Nat} {c:Nat} (h:a+(b+1)<c):a<c:=Nat.lt_of_le_of_lt (Nat.le_add_right _ _) h
theorem KP {a b:Nat} {c:Nat} (h:a+(b+1)<c):a+1+b<c:=by rwa [Nat.add_assoc,Nat.add_comm 1]
section
variable {s:Shared} {ρ:gJ}
theorem zh {A:Around} (R:∀a b v u c,q a b=some c→aP ρ s.heap a v→aP ρ s.heap b u→SeqAt.EqAt A s v u c) {l:zL}:∀{k:zL} {vs us:zV} {c:Bool},gk q l k=some c→aO ρ s.heap l vs→aO ρ s.heap k us→
  ∃e:Nat→Bool,(∀j (I:j<vs.toArray.size) (V:j<us.toArray.size),SeqAt.EqAt A s vs.toArray[j] us.toArray[j] (e j))∧((List.range (min vs.length us.length)).all e&&vs.length==us.length)=c:=by
 induction l with
 |nil=>
  intro k Z Z c h C D;cases k with
  |nil=>exact C.bW (D.bW ⟨fun Z=>true,fun j I=>absurd I (Nat.not_lt_zero _),bw h⟩)
  |cons=>exact D.aQ fun Z Z Z Z=>C.bW ⟨fun Z=>true,fun j I=>absurd I (Nat.not_lt_zero _),bw h⟩
 |cons a l ih=>
  intro k Z Z c h C D;cases k with
  |nil=>exact D.bW (C.aQ fun Z Z Z Z=>⟨fun Z=>true,fun j I V=>absurd V (Nat.not_lt_zero _),bw h⟩)
  |cons b k=>
  refine C.aQ fun v vs C L=>D.aQ fun u us D J=>?_;have h:(match q a b with|some x=>(match gk q l k with|some y=>some (x&&y)|none=>none)|none=>none)=some c:=h;cases H:q a b with
  |none=>rw [H] at h;exact aW h
  |some x=>
   cases M:gk q l k with
   |none=>rw [H,M] at h;exact aW h
   |some y=>
    rw [H,M] at h;refine az (ih M L J) fun e he U=>cJ (fun j=>match j with|0=>x|j+1=>e j) (fun j I V=>?_) ?_
    ·cases j with
     |zero=>exact R _ _ _ _ _ H C D
     |succ j=>exact he j (Nat.lt_of_succ_lt_succ I) (Nat.lt_of_succ_lt_succ V)
    ·have e1:min (v::vs).length (u::us).length=min vs.length us.length+1:=Nat.add_min_add_right ..
     rw [←bw h,←U,e1,List.range_succ_eq_map,List.all_cons,List.all_map];simp [Function.comp_def,Bool.and_assoc]
theorem oB {h:Heap} (R:∀a b v c,q a b=some c→aP ρ h a v→aP ρ h b v→c=true) {l:zL}:∀{k:zL} {vs:zV} {c:Bool},gk q l k=some c→aO ρ h l vs→aO ρ h k vs→c=true:=by
 induction l with
 |nil=>intro k vs c e C D;cases C;cases D;exact (bw e).symm
 |cons a l ih=>
  intro k vs c e C D;cases C with
  |cons C L=>
   cases D with
   | @cons b _ k _ D J=>
    have e:(match q a b with|some x=>(match gk q l k with|some y=>some (x&&y)|none=>none)|none=>none)=some c:=e;cases H:q a b with
    |none=>rw [H] at e;exact aW e
    |some x=>
     cases M:gk q l k with
     |none=>rw [H,M] at e;exact aW e
     |some y=>rw [H,M] at e;rw [←bw e,R _ _ _ _ H C D,ih M L J];rfl
theorem za {h:Heap}:∀(f:Nat) (a b:DV) (v:Value) (c:Bool),h_ f a b=some c→aP ρ h a v→aP ρ h b v→c=true:=by
 intro f;induction f with
 |zero=>exact fun a b v c e Z Z=>aW e
 |succ f ih=>
  intro a b v c e F E;cases F with
  |none=>cases E;exact (bw e).symm
  |bool _=>exact aW e
  |int i t=>cases E;exact (bw e).symm.trans (bJ.trans (gH rfl))
  |str i t=>cases E;exact (bw e).symm.trans (b9.trans (gH rfl))
  |ai t1 C=>
   cases b with
   |ai l'=>cases E with|ai t2 D=>exact oB ih e (t1.inj t2▸C) D
   |none=>cases E
   |int _=>cases E
   |str _=>cases E
   |_=>exact aW e
  |aj _=>exact aW e
  |fn _=>exact aW e
theorem vB:∀(f:Nat) (A:Around) (a b:DV) (v u:Value) (c:Bool),A.units+f<cLine→h_ f a b=some c→aP ρ s.heap a v→aP ρ s.heap b u→SeqAt.EqAt A s v u c:=by
 intro f;induction f with
 |zero=>exact fun A a b v u c Z e Z Z=>aW e
 |succ f ih=>
  intro A a b v u c hu h F E;have G:=Rk hu;cases a with
  |none=>cases b with
   |none=>exact F.cG (E.cG (bw h▸SeqAt.EqAt.same _))
   |int _=>exact F.cG (E.aG fun Z=>bw h▸SeqAt.EqAt.none_int _ _)
   |str _=>exact F.cG (E.bI fun Z=>bw h▸SeqAt.EqAt.none_str _ _)
   |ai _=>exact F.cG (E.b_ fun Z Z t Z=>bw h▸SeqAt.EqAt.none_tuple (bD t) G)
   |_=>exact aW h
  |int i=>cases b with
   |none=>exact E.cG (F.aG fun Z=>bw h▸SeqAt.EqAt.int_none _ _)
   |int j=>exact F.aG fun Z=>E.aG fun Z=>(bw h).symm.trans bJ▸SeqAt.EqAt.int_int _ _ _ _
   |str _=>exact F.aG fun Z=>E.bI fun Z=>bw h▸SeqAt.EqAt.int_str _ _ _ _
   |ai _=>exact F.aG fun Z=>E.b_ fun Z Z t Z=>bw h▸SeqAt.EqAt.int_tuple _ _ (bD t) G
   |_=>exact aW h
  |str i=>cases b with
   |none=>exact E.cG (F.bI fun Z=>bw h▸SeqAt.EqAt.str_none _ _)
   |int j=>exact F.bI fun Z=>E.aG fun Z=>bw h▸SeqAt.EqAt.str_int _ _ _ _
   |str _=>exact F.bI fun Z=>E.bI fun Z=>(bw h).symm.trans b9▸SeqAt.EqAt.str_str _ _ _ _
   |ai _=>exact F.bI fun Z=>E.b_ fun Z Z t Z=>bw h▸SeqAt.EqAt.str_tuple _ _ (bD t) G
   |_=>exact aW h
  |ai l=>cases b with
   |none=>exact E.cG (F.b_ fun Z Z t Z=>bw h▸SeqAt.EqAt.tuple_none (bD t) G)
   |int j=>exact F.b_ fun Z Z t Z=>E.aG fun Z=>bw h▸SeqAt.EqAt.tuple_int _ _ (bD t) G
   |str _=>exact F.b_ fun Z Z t Z=>E.bI fun Z=>bw h▸SeqAt.EqAt.tuple_str _ _ (bD t) G
   |ai k=>
    refine F.b_ fun x vs t C=>E.b_ fun y us t2 D=>?_
    ·by_cases Q:x=y
     ·subst Q
      rw [oB (za f) h (t.inj t2▸C) D];exact SeqAt.EqAt.same _
     ·refine az (zh (A:=A.in1) (fun a b v u c R C D=>ih A.in1 a b v u c (KP hu) R C D) h C D) fun e he U=>SeqAt.EqAt.of_refs Q (U▸?_)
      have:=SeqAt.RcAt.tuples (A:=A) (e:=e) (bD t) (bD t2) G he;simpa using this
   |_=>exact aW h
  |_=>exact aW h
end
theorem cA {a b:DV} {l k:zL} {x y:Bool} (h:q a b=some x) (m:gk q l k=some y):gk q (a::l) (b::k)=some (x&&y):=by show (match q a b with|some x=>(match gk q l k with|some y=>some (x&&y)|none=>none)|none=>none)=_;rw [h,m]
theorem dF {a b:Int}:h_ (f+1) (.int a) (.int b)=some (decide (a=b)):=congrArg some bJ
theorem pX {a b:Str}:h_ (f+1) (.str a) (.str b)=some (decide (a=b)):=congrArg some b9
theorem vq {p q r:Prop} [Decidable p] [Decidable q] [Decidable r] (h:r↔p∧q):(decide p&&decide q)=decide r:=by rw [←Bool.decide_and];exact decide_eq_decide.mpr h.symm
theorem oz:∀{l k:List Int},gk (h_ (f+1)) (l.map .int) (k.map .int)=some (decide (l=k))
 |[],[]=>rfl
 |[],_::_=>rfl
 |_::_,[]=>rfl
 |a::l,b::k=>(cA dF oz).trans (congrArg some (vq List.cons_eq_cons))
theorem mV {a b:DV} {x:Bool} (h:h_ f a b=some x):gk (h_ f) [a] [b]=some x:=(cA (l:=[]) (k:=[]) (y:=true) h rfl).trans (congrArg some (Bool.and_true _))
theorem l8 {a b:gi}:i_ a.dv b.dv=some (decide (a=b)):=by
 cases a with
 |pair a1 a2=>cases b with
  |pair Y X=>exact (cA (q:=h_ 7) dF (mV dF)).trans (congrArg some (vq (by simp)))
  |named Y X l=>exact (cA (q:=h_ 7) dF (cA (l:=[]) (k:=[.ai (l.map .int)]) (y:=false) dF rfl)).trans (congrArg some (by simp))
 |named a1 a2 k=>cases b with
  |pair Y X=>exact (cA (q:=h_ 7) dF (cA (k:=[]) (l:=[.ai (k.map .int)]) (y:=false) dF rfl)).trans (congrArg some (by simp))
  |named Y X l=>exact (cA (q:=h_ 7) dF (cA dF (mV (f:=7) (a:= .ai (k.map .int)) (b:= .ai (l.map .int)) (oz (f:=5))))).trans (congrArg some (by simp [Bool.decide_and]))
theorem ny {a b:ru}:i_ a.dv b.dv=some (decide (a=b)):=by obtain ⟨a1,a2,a3⟩:=a;obtain ⟨Y,X,b3⟩:=b;exact (cA (q:=h_ 7) dF (cA pX (mV dF))).trans (congrArg some (by simp [Bool.decide_and]))
theorem rA:∀{l:zL},allI l=true→∃ns:List Int,l=ns.map .int
 |[],_=>⟨[],rfl⟩
 |d::l,h=>by
  cases d with
  |int i=>refine aA (rA (l:=l) h) fun ns P=>?_;subst P;exact ⟨i::ns,rfl⟩
  |_=>exact nof h
def uU (x:DV):KD→Prop
 | .z=>True
 | .s=>∃s,x= .str s
 | .r=>∃k:gi,x=k.dv
 | .n=>∃k:ru,x=k.dv
theorem iH (x:DV):uU x (bh x):=by
 cases x with
 |str s=>exact ⟨s,rfl⟩
 |ai l=>cases l with
  |nil=>trivial
  |cons a l=>cases a with
   |int a=>cases l with
    |nil=>trivial
    |cons b l=>cases b with
     |int b=>cases l with
      |nil=>exact ⟨.pair a b,rfl⟩
      |cons e l=>cases l with
       |cons _ _=>trivial
       |nil=>cases e with
        |ai k=>
         show uU _ (FO k);unfold FO;cases hk:allI k with
         |false=>trivial
         |true=>refine aA (rA hk) fun ns P=>?_;subst P;exact ⟨.named a b ns,rfl⟩
        |_=>trivial
     |str b=>cases l with
      |nil=>trivial
      |cons e l=>cases l with
       |cons _ _=>trivial
       |nil=>cases e with
        |int n=>exact ⟨⟨a,b,n⟩,rfl⟩
        |_=>trivial
     |_=>trivial
   |_=>trivial
 |_=>trivial
theorem KD.iF {a b:KD} (h:KD.g9 a b=true):a=b:=by cases a<;>cases b<;>first|rfl|exact nof h
theorem oV {w:World} {ρ:gJ} {h:Heap}:∀{l:List Int} {vs:zV},aO ρ h (l.map .int) vs→PySem.ItemsAre (intKind pr w) l vs
 |[],_,r=>r.bW .nil
 |x::l,_,r=>r.aQ fun Z Z C r=>C.aG fun Z=> .cons (intKind_is _ _ _ _) (oV r)
theorem qv {w:World} {ρ:gJ} {h:Heap} {k:gi} (r:aP ρ h k.dv v):∃a,v= .ref a∧mH pr w h k a:=by
 cases k with
 |pair a b=>refine r.b_ fun x vs t r=>?_;revert t;exact r.aQ fun u u C r=>r.aQ fun u u D r=>r.bW (C.aG fun u=>D.aG fun u=>fun t=>⟨_,rfl,_,_,t⟩)
 |named a b l=>refine r.b_ fun x vs t r=>?_;revert t;exact r.aQ fun u u C r=>r.aQ fun u u D r=>r.aQ fun u u Z r=>r.bW (C.aG fun u=>D.aG fun u=>Z.b_ fun u u t' r'=>fun t=>by refine lB t' fun o items n ho U hd hi=>⟨_,rfl,_,_,_,t,o,items,n,ho,U,hd,hi▸oV r'⟩)
theorem qu {ρ:gJ} {h:Heap} {k:ru} (r:aP ρ h k.dv v):∃a,v= .ref a∧wW h k a:=r.b_ fun x vs t r=>by revert t;exact r.aQ fun u u C r=>r.aQ fun u u D r=>r.aQ fun u u Z r=>r.bW (C.aG fun u=>D.bI fun u=>Z.aG fun u=>fun t=>⟨_,rfl,_,_,_,t⟩)
theorem oG {p:DV×DV} {x:DV} {b:Bool} (h:i_ p.1 x=some b):aY (p::l) x=if b then some (some p.2) else aY l x:=by
 show (match i_ p.1 x with|some b=>(match b with|true=>some (some p.2)|false=>aY l x)|none=>none)=_;rw [h];cases b
 ·exact (aS Bool.false_ne_true).symm
 ·exact (bk rfl).symm
theorem mX {p:DV×DV} {x v:DV} {b:Bool} (h:i_ p.1 x=some b):aM (p::l) x v=if b then (p.1,v)::l else p::aM l x v:=by
 show (match i_ p.1 x with|some b=>(match b with|true=>(p.1,v)::l|false=>p::aM l x v)|none=>p::aM l x v)=_;rw [h];cases b
 ·exact (aS Bool.false_ne_true).symm
 ·exact (bk rfl).symm
section
variable {w:World} {ρ:gJ} {h:Heap}
def Found (ρ:gJ) (h:Heap) (o:Option DV) (f:Option Value):Prop:=match o with
 |some d=>∃v,f=some v∧aP ρ h d v
 |none=>f=none
theorem ri [DecidableEq K] {s:K} {k:List (K×Value)}:valueAt ((B,v)::k) s=if B=s then some v else valueAt k s:=by by_cases e:B=s<;>simp [valueAt,e]
theorem mL [DecidableEq K] {s:K} {k:List (K×Addr×Value)}:atKey ((B,a,v)::k) s=if B=s then some (a,v) else atKey k s:=by unfold atKey;by_cases e:B=s<;>simp [e]
theorem qw {s:Str} {k:List (Str×Value)} (x:om ρ h l k):∃o,aY l (.str s)=some o∧Found ρ h o (valueAt k s):=by
 induction x with
 |nil=>exact cJ none rfl rfl
 | @cons B d v l k hr r ih=>
  rw [oG (b:=decide (B=s)) pX,ri];by_cases e:B=s
  ·exact ⟨some d,bk (gH e),v,bk e,hr⟩
  ·rw [aS e,nU e]
   exact ih
theorem jS [DecidableEq KK] (he:∀a b,i_ (dv a) (dv b)=some (decide (a=b))) {s:KK} (x:tF dv is ρ h l k):∃o,aY l (dv s)=some o∧Found ρ h o ((atKey k s).map (·.2)):=by
 induction x with
 |nil=>exact cJ none rfl rfl
 | @cons B a d v l k _ hr r ih=>
  rw [oG (b:=decide (B=s)) (he _ _),mL];by_cases e:B=s
  ·exact ⟨some d,bk (gH e),v,by rw [bk e];rfl,hr⟩
  ·rw [aS e,nU e]
   exact ih
theorem sW [DecidableEq K] {s:K} {v':Value} {k:List (K×Value)} (O:B∉k.map (·.1)):stored ((B,v')::k) s v=if B=s then (B,v)::k else (B,v')::stored k s v:=by
 unfold stored;by_cases e:B=s
 ·subst e
  simp only [List.any_cons,decide_true,Bool.true_or,if_true,List.map_cons];congr 1
  have:∀p∈k,(if p.1=B then (p.1,v) else p)=p:=fun p S=>aS fun q=>O (List.mem_map.mpr ⟨p,S,q⟩);rw [List.map_congr_left this,List.map_id']
 ·simp only [List.any_cons,e,decide_false,Bool.false_or,if_false,List.map_cons]
  split<;>simp [e]
theorem qV [DecidableEq K] {s:K} {a':Addr} {v':Value} {k:List (K×Addr×Value)} (O:B∉k.map (·.1)):storedH ((B,a',v')::k) s a v=if B=s then (B,a',v)::k else (B,a',v')::storedH k s a v:=by
 unfold storedH;rw [mL];by_cases e:B=s
 ·subst e
  simp only [if_true,Option.isSome_some,List.map_cons];have I:putAt B v (B,a',v')=(B,a',v):=by simp [putAt]
  have:∀p∈k,putAt B v p=p:=fun p S=>aS fun q=>O (List.mem_map.mpr ⟨p,S,q⟩);rw [I,List.map_congr_left this,List.map_id']
 ·simp only [e,if_false]
  split
  ·rw [List.map_cons]
   have I:putAt s v (B,a',v')=(B,a',v'):=by simp [putAt,e]
   rw [I]
  ·rfl
theorem vP {s:Str} {d:DV} (hr:aP ρ h d v) {k:List (Str×Value)} (x:om ρ h l k):(k.map (·.1)).Nodup→om ρ h (aM l (.str s) d) (stored k s v):=by
 induction x with
 |nil=>exact fun Z=> .cons hr .nil
 | @cons B d' v' l k N r ih=>
  intro O;refine aZ (List.nodup_cons.mp O) fun n1 g=>?_;rw [mX (b:=decide (B=s)) pX,sW n1];by_cases e:B=s
  ·rw [bk e,gH e];exact .cons hr r
  ·rw [aS e,nU e];exact .cons N (ih g)
theorem vO [DecidableEq KK] (he:∀a b,i_ (dv a) (dv b)=some (decide (a=b))) {s:KK} {d:DV} (hk:is h s a) (hr:aP ρ h d v) (x:tF dv is ρ h l k):(k.map (·.1)).Nodup→tF dv is ρ h (aM l (dv s) d) (storedH k s a v):=by
 induction x with
 |nil=>exact fun Z=> .cons hk hr .nil
 | @cons B a' d' v' l k T N r ih=>
  intro O;refine aZ (List.nodup_cons.mp O) fun n1 g=>?_;rw [mX (b:=decide (B=s)) (he _ _),qV n1];by_cases e:B=s
  ·rw [bk e,gH e];exact .cons (e▸T) hr r
  ·rw [aS e,nU e];exact .cons T N (ih g)
theorem fE (x:tF dv is ρ h l k):∀p∈k,is h p.1 p.2.1:=by
 induction x with
 |nil=>exact fun Z H=>nomatch H
 |cons a _ _ ih=>exact fun p S=>(dP S).elim (fun e=>e▸a) (ih p)
theorem om.length {k:List (Str×Value)} (x:om ρ h l k):k.length=l.length:=by
 induction x with
 |nil=>rfl
 |cons _ _ ih=>exact congrArg (·+1) ih
theorem tF.length (x:tF dv is ρ h l k):k.length=l.length:=by
 induction x with
 |nil=>rfl
 |cons _ _ _ ih=>exact congrArg (·+1) ih
end
end
section
open scoped Classical
variable {a:Nat} {h:Heap} {d:DV} {as:List (Nat×DV)} {t:List (Nat×Int)} {r k B:Nat}
noncomputable def Q6 {α:Type} (o:Option (Option α)):Bool:=match o with
 |some o=>o.isNone
 |none=>false
noncomputable def attrOk (K:Frag) (C:Addr) (name:Str):Bool:=plainGet K C name&&(hasDictIn K C&&(Q6 (findIn K (.ref C) name)&&(noGet K none&&
 ((bM (findIn K (.ref C) "__setattr__") fun o=>bM o fun v=>decide (v= .builtin "object.__setattr__"))&&(plainOver K C&&Q6 (takerIn K C name))))))
theorem yN (w:World):(PG.DL.all fun p=>p.2.all fun a=>Nat.blt a j5.length&&attrOk (zk w) p.1 (nm a))=true:=by kernel_rfl
theorem oW {α:Type} {o:Option (Option α)} (h:Q6 o=true):o=some none:=by
 cases o with
 |none=>exact nof h
 |some o=>cases o with
  |none=>rfl
  |some _=>exact nof h
structure wR (K:Frag) (C:Addr) (a:Nat):Prop where
 l:a<j5.length
 g:plainGet K C (nm a)=true
 h:hasDictIn K C=true
 f:findIn K (.ref C) (nm a)=some none
 s:findIn K (.ref C) "__setattr__" =some (some (.builtin "object.__setattr__"))
 o:plainOver K C=true
 t:takerIn K C (nm a)=some none
theorem mO (w:World) {C:Nat} (h:wc PG C a=true):wR (zk w) C a:=by
 unfold wc at h;cases R:aF PG.DL C with
 |none=>rw [R] at h;exact nof h
 |some l=>
  rw [R] at h;refine af (gh (gh (yN w) _ (er R)) _ (ni h)) fun a0 h=>af h fun a1 h=>af h fun a2 h=>af h fun a3 h=>af h fun a4 h=>af h fun a5 h=>af h fun a6 a7=>⟨dD a0,a1,a2,oW (o:=findIn (zk w) (.ref C) (nm a)) a3,?_,a6,oW (o:=takerIn (zk w) C (nm a)) a7⟩
  exact au a5 fun o e h=>au h fun v e' d=>by rw [e,e',dR d]
theorem aP.handed {ρ:gJ} {v:Value} (r:aP ρ h d v):handedIn v=true:=by cases r<;>rfl
theorem Gh {C:Nat} {v:DV} (h:(as.all fun p=>wc PG C p.1)=true) (e:aF as a=some v):wc PG C a=true:=gh h _ (er e)
theorem wz {w:World} {A:Around} (h:A.units+1<cLine):(jW pr w).room A:=h
theorem qF {w:World} {A:Around} (h:A.units+1<cLine):(fG pr w).room A:=h
theorem IsDictOf.dictOf {w:World} {K':Type} [DecidableEq K'] {knd:KeyKind pr w K'} {o:Obj} {c6:List (K'×Value)} {a:Addr} (x:o.IsDictOf knd c6) (e:h.get? a=some o):h.DictOf knd a c6:=Heap.dictOf_iff.mpr ⟨o,e,x⟩
inductive wX:List DictEntry→List (Nat×Int)→Prop
 |nil:wX [] []
 |cons {h:Int} {n:Nat} {v:Int} {t u:Tok} {es:List DictEntry} {l:List (Nat×Int)}:wX es l→wX (⟨h,.int (n:Nat) t,.int v u⟩::es) ((n,v)::l)
theorem wX.find {w:World} {i:Nat} {es:List DictEntry} {l:List (Nat×Int)} (r:wX es l):match aF l i with|some v=>∃t,(es.find? fun e=>(intKind pr w).is (i:Nat) e.key).map (·.val)=some (.int v t)|none=>(es.find? fun e=>(intKind pr w).is (i:Nat) e.key).map (·.val)=none:=by
 induction r with
 |nil=>exact rfl
 | @cons h n v t u es l r ih=>
  rw [b6,List.find?_cons];have hk:(intKind pr w).is (i:Nat) (.int (n:Nat) t)=decide (n=i):=by simp only [intKind,Value.isInt];rw [Bool.eq_iff_iff];simp only [beq_iff_eq,decide_eq_true_eq];exact QD
  simp only [hk];by_cases e:n=i
  ·simp [e]
  ·simp only [e,decide_false,if_false]
   exact ih
noncomputable def ud:Array DictEntry:=match (JY (aWorld 1).params).data with| .dict es _=>es|_=> #[]
theorem KQ:wX ud.toList [(20,0),(9,1),(10,2),(11,3),(12,4),(13,5),(14,6),(15,7),(16,8),(17,9),(18,10),(19,11),(1,12),(4,13)]:=by exact .cons (.cons (.cons (.cons (.cons (.cons (.cons (.cons (.cons (.cons (.cons (.cons (.cons (.cons .nil)))))))))))))
theorem Bc (ht:aF PG.tab a=some t):a=48∧t=[(20,0),(9,1),(10,2),(11,3),(12,4),(13,5),(14,6),(15,7),(16,8),(17,9),(18,10),(19,11),(1,12),(4,13)]:=by
 have hm:=er ht;cases hm with
 |head=>exact ⟨rfl,rfl⟩
 |tail _ h=>cases h
theorem wH (ht:aF PG.tab a=some t):(a==sysModules)=false:=by rw [(Bc ht).1];rfl
theorem mu {w:World} (X:(zk w).In h) (ht:aF PG.tab a=some t):
  ∃f:Int→Option Value,h.MapOf (intKind pr w) a f∧∀i:Nat,match aF t i with|some v=>∃tk,f (i:Nat)=some (.int v tk)|none=>f (i:Nat)=none:=by
 refine aZ (Bc ht) fun xj iY=>?_;subst xj;subst iY;have e:(zk w).lookup 48=some (JY w.params):=by rfl
 have ho:=X _ _ e;refine cJ (fun k=>findBy (intKind pr w).is ud k) ⟨JY w.params,ud,14,ho,⟨rfl,rfl,rfl⟩,rfl,?_,fun Z=>rfl⟩ (fun i=>?_)
 ·intro e he
  have:e∈ud.toList:=by simpa using he
  simp only [ud,JY,List.mem_cons,List.not_mem_nil,or_false] at this;rcases this with rfl|rfl|rfl|rfl|rfl|rfl|rfl|rfl|rfl|rfl|rfl|rfl|rfl|rfl
  all_goals exact cJ _ (gH rfl) rfl
 ·have:=KQ.find (w:=w) (i:=i)
  have h2:findBy (intKind pr w).is ud ((i:Nat):Int)=(ud.toList.find? fun e=>(intKind pr w).is ((i:Nat):Int) e.key).map (·.val):=by rw [findBy,←Array.find?_toList]
  simp only [h2];exact this
section
variable {w:World} {c:Cx} {W:Wd} {σ:ah} {ls:Lc} {s:Shared} {E:zQ} {n:Nat} {O:zP} {z:Bool} {av:Nat}
theorem Cx.Ok.room {c:Cx} (o:c.Ok w n):c.A.in1.units+200<cLine:=by have:=o.hu;show c.un+1+200<_;exact QE this
theorem Cx.Ok.o8 {c:Cx} (o:c.Ok w n):c.A.in1.units+1<cLine:=Nat.lt_of_le_of_lt (Nat.add_le_add_left aD _) o.room
theorem Cx.aC.tG (S:c.aC w W σ ls s.heap) {l:zL} {a:Addr} (J:aN σ r k=some ⟨B,.list l⟩) (ha:W.ρ r k=some a):∃vs m,s.heap.get? a=some (bV vs m)∧aO W.ρ s.heap l vs:=by obtain ⟨a',T,el,em,vs,m,e,q⟩:=S.cells.cell r k _ J;obtain rfl:a'=a:=bw (T.symm.trans ha);exact Fi vs m (e▸(S.nw _ (dS _ em)).1) q
theorem cL {a:Addr} {vs:zV} {m:Nat} (e:h.get? a=some (bV vs m)):h.IsList a vs.toArray:=⟨_,e,rfl,m,rfl⟩
theorem Cx.aC.DK (S:c.aC w W σ ls s.heap) {kd:KD} {l:zD} {a:Addr} (J:aN σ r k=some ⟨B,.dict kd l⟩) (ha:W.ρ r k=some a):s.heap.get? a=some (W.ob r k)∧(a==sysModules)=false∧jf w W.ρ s.heap kd (W.ob r k) l:=by refine EY (S.cells.cell r k _ J) fun a' T el em e q=>?_;obtain rfl:a'=a:=bw (T.symm.trans ha);exact eo ((S.nw _ (dS _ em)).1) e q
theorem Cx.aC.LR (S:c.aC w W σ ls s.heap) {C:Addr} {a:Addr} (J:aN σ r k=some ⟨B,.inst C as⟩) (ha:W.ρ r k=some a):
  (a,instObj C (W.dx r k))∈W.led∧W.xG a=(r,k,false)∧(W.dx r k,W.od r k)∈W.led∧W.xG (W.dx r k)=(r,k,true)∧(as.all fun p=>wc PG C p.1)=true∧∃l,rq (W.od r k) l l.length∧rj W.ρ s.heap as l:=by
 refine EY (S.cells.cell r k _ J) fun a' T el em V r=>?_;obtain rfl:a'=a:=bw (T.symm.trans ha);exact eo (V▸em) el r
theorem Cx.aC.D3 (o:c.Ok w n) (S:c.aC w W σ ls s.heap):(zk w).In s.heap:=let ⟨m,F,_⟩:=S.fr;o.G.X.keeps F.keep
theorem AW {Q:zQ} {v:Value} {expr:Bool} {q:DV→RR} (o:c.Ok w n) (S:c.aC w W σ ls s.heap) (r:aP W.ρ s.heap d v) (p:ao O (HX z σ d a q))
  (h:∀dv v' tk,aP W.ρ s.heap dv v'→ao O (q dv)→Q v' {s with toks:=tk}):zw w c (getAttr v (nm a) expr) Q E s:=by
 cases d with
 |aj i k=>
  refine r.bK fun x j=>bq p fun cz b J p=>?_;cases b with
  |inst C as=>
   obtain ⟨em,_,I,_,H,l,D,hA⟩:=S.LR J j;refine az S.fr fun m F Z=>?_;cases R:aF as a with
   |none=>have p':ao O (match aF as a with|some v=>q v|none=> .no):=p;rw [R] at p';exact p'.elim
   |some dv=>have p':ao O (match aF as a with|some v=>q v|none=> .no):=p;rw [R] at p';have f:=mO w (Gh H R);refine az (hA.aF R f.l) fun v hv hr=>xw F o.G.X S.nw (dS _ em) (dS _ I) (D.DL hv) f.g f.h f.f rfl hr.handed (h dv v _ hr p')
  |_=>exact p.elim
 |_=>exact p.elim
theorem uW {P:Nat→Bool} (h:P a=true):∀{as:List (Nat×DV)},(as.all fun p=>P p.1)=true→((aV as a d).all fun p=>P p.1)=true
 |[],_=>by show (P a&&true)=true;rw [h];rfl
 |y::l,x=>by
  refine af (a:=P y.1) x fun x1 x2=>?_;unfold aV;by_cases e:y.1=a
  ·rw [bk e];show (P y.1&&l.all fun p=>P p.1)=true;rw [x1,x2];rfl
  ·rw [aS e];show (P y.1&&(aV l a d).all fun p=>P p.1)=true;rw [x1,uW h x2];rfl
theorem Cx.aC.Q9 (S:c.aC w W σ ls s.heap) {C x:Addr} {as':List (Nat×DV)} {od':Obj} {M:Heap} (J:aN σ r k=some ⟨B,.inst C as⟩) (j:W.ρ r k=some x) (f:c.Goes s.heap M) (N':News c.g c.L M ((W.dx r k,od')::m8 (W.led++c.ex) (W.dx r k))) (t:aX s.heap M)
  (Z:od'.cls= .type "dict") (H:(as'.all fun p=>wc PG C p.1)=true) (hok:∃l,rq od' l l.length∧rj W.ρ M as' l):∃W',c.aC w W' (f_ z σ r k ⟨B+1,.inst C as'⟩) ls M∧Go W σ s.heap W' (f_ z σ r k ⟨B+1,.inst C as'⟩) M:=by
 refine Mh (S.cells.cell r k _ J) fun a T el em V I N u u=>?_;obtain rfl:a=x:=bw (T.symm.trans j);refine az hok fun l D q=>?_;have e1:(W.wr r k true (W.dx r k) od').ob r k=W.ob r k:=aS fun z=>Bool.noConfusion z.2;have e2:(W.wr r k true (W.dx r k) od').od r k=od':=bk ⟨⟨rfl,rfl⟩,rfl⟩;have Y:a≠W.dx r k:=fun e=>by rw [e,N] at el;cases el
 exact ⟨_,S.write J I N f N' t (fun q=>by have:=q.1;rw [Z] at this;revert this;simp) ⟨a,T,el,by rw [e1];exact .tail _ (bG.mpr ⟨em,Y⟩),e1.trans V,by rw [e2];exact .head _,N,H,l,by rw [e2];exact D,q⟩⟩
theorem x8 {Q:Unit→Shared→Prop} {dv:DV} {q:ah→RR} {vd vv:Value} (o:c.Ok w n) (S:c.aC w W σ ls s.heap) (rd:aP W.ρ s.heap d vd) (rv:aP W.ρ s.heap dv vv) (p:ao O (setAt PG z σ d a dv q))
  (h:∀U W' M tk,c.aC w W' U ls M→Go W σ s.heap W' U M→ao O (q U)→Q () (sh s M tk)):zw w c (setAttr vd (nm a) vv) Q E s:=by
 cases d with
 |aj i k=>
  refine rd.bK fun x j=>bq p fun cz b J p=>?_;cases b with
  |inst C as=>
   have p:ao O (match Nat.ble as.length 900 with|true=>(match wc PG C a with|true=>c_ as a dv fun as=>setC z σ i k cz (.inst C as) q|false=> .no)|false=> .no):=p;cases hlen:Nat.ble as.length 900 with
   |false=>rw [hlen] at p;exact p.elim
   |true=>
    cases H:wc PG C a with
    |false=>rw [hlen,H] at p;exact p.elim
    |true=>
     rw [hlen,H] at p;have p:ao O (c_ as a dv fun as=>setC z σ i k cz (.inst C as) q):=p;rw [cU,iT] at p;obtain ⟨em,el,I,N,M6,l,D,hA⟩:=S.LR J j;refine az S.fr fun m F u=>?_;have f:=mO w H;have N0:=J6 S F I;have Y:x≠W.dx i k:=fun e=>by rw [e,N] at el;cases el
     have hxd:(x,instObj C (W.dx i k))∈tN c W s.heap (W.dx i k):=dS _ (bG.mpr ⟨dS _ em,Y⟩);refine xX F o.G.X N0 (.tail _ hxd) (.head _) (D.norm rfl) f.s f.o f.t f.h (by rw [hA.length];exact hlen) (fun od'=>Upd.head (LW S I)) (fun od' M tk' Z D' F' N'=>?_);have t:=jZ F F' fun p hp=>N' p (.tail _ (d9 _ hp));obtain ⟨W',S',g'⟩:=S.Q9 (as':=aV as a dv) J j (iP F F') (fun p hp=>N' p ((dP hp).elim (fun e=>e▸.head _) fun z=> .tail _ (dS _ z))) t Z (uW H M6) ⟨_,D'.norm rfl,(hA.mono bC.refl t).put f.l (rv.mono bC.refl t)⟩;exact h _ _ M tk' S' g' p
  |_=>exact p.elim
 |_=>exact p.elim
end
end
section
open scoped Classical
variable {d x:DV} {vx:Value} {l:zD}
theorem g_:(20000:Nat)≤sizeLine:=by rw [sizeLine_eq];decide
theorem uh {α:Type} {l:List α} {i:Nat} {a:α} (h:l[i]?=some a):i<l.length:=(jy h).1
section
variable {w:World} {c:Cx} {W:Wd} {σ:ah} {ls:Lc} {s:Shared} {E:zQ} {n:Nat} {J:zP} {z:Bool} {av:Nat}
theorem wM {i m:Nat} (h:i<m):seqIndex? (Int.ofNat i) m=some i:=by unfold seqIndex?;have h3:¬((i:Int)<0):=k0;simp only [Int.ofNat_eq_natCast,h3,if_false];rw [bk (by simp;exact k1 h)];simp
theorem sR {Q:zQ} {q:DV→RR} {vd:Value} (o:c.Ok w n) (S:c.aC w W σ ls s.heap) (rd:aP W.ρ s.heap d vd) (rx:aP W.ρ s.heap x vx) (p:ao J (G9 PG z σ d x q))
  (h:∀dv v' tk,aP W.ρ s.heap dv v'→ao J (q dv)→Q v' {s with toks:=tk}):∃T id,s.TypeIs vd T∧typeLookup (.type T) "__getitem__" =pure (some (.builtin id))∧zw w c (getItem vd vx) Q E s:=by
 cases d with
 |ai l=>cases x with
  |int i=>cases i with
   |ofNat i=>refine bN p fun hi p=>jq p fun dv U p=>rd.b_ fun x vs t r=>rx.aG fun tk=>az (r.get U) fun u hu q=>xC _ _ ((bD t).typeIs) slot_tuple_getitem.lookup (getItem_tuple (j:=i) (bD t) (p1 hi) (p2 hi) (wM (by simpa using uh hu)) (by simpa using hu) (h dv u s.toks q p))
   |negSucc _=>exact p.elim
  |_=>exact p.elim
 |aj i k=>
  refine rd.bK fun a G=>bq p fun cz b D p=>?_;cases b with
  |list l=>cases x with
   |int i=>
    refine dB (S.tG D G) fun vs m hg hr=>?_;have R:=cL hg;refine rx.aG fun tk=>⟨_,_,R.typeIs,slot_list_getitem.lookup,?_⟩
    cases i with
    |ofNat i=>refine bN p fun hi p=>jq p fun dv U p=>az (hr.get U) fun u hu q=>wpAny_getItem_list R (Int.natCast_nonneg i) (p2 hi) (by simpa using hu) (h dv u s.toks q p)
    |negSucc j=>refine bN p fun hj p=>bN p fun hn p=>eH p (fun e p=>jq p fun dv U p=>?_) fun Z p=>p.elim;have hjl:=dD (bw e);refine az (hr.get U) fun u hu q=>?_;have hlen:=hr.length;refine wpAny_getItem_list_neg R (Int.negSucc_lt_zero j) (p4 hjl hlen) (p5 hj) ?_ (h dv u s.toks q p);have e1:(Int.negSucc j+(vs.length:Int)).toNat=l.length -(j+1):=p6 hlen;simpa [e1] using hu
   |_=>exact p.elim
  |dict kd l=>
   refine eg (S.DK D G) fun A hsm hd=>xC _ _ ⟨_,A,hd.ex.1⟩ PySem.F.slot_dict_getitem.lookup ?_;have fin:∀{dv:DV} {oo:Option DV} {f:Option Value},cW l x=some dv→aY l x=some oo→Found W.ρ s.heap oo f→∃v,f=some v∧aP W.ρ s.heap dv v:=by intro dv oo f h1 h2 h3;unfold cW at h1;rw [h2] at h1;have h1:oo=some dv:=h1;subst h1;exact h3
   cases kd with
   |s=>
    have p:ao J (match KD.g9 (bh x) .s with|true=>Ax z (cW l x) q|false=> .no):=p;cases hk:KD.g9 (bh x) .s with
    |false=>rw [hk] at p;exact p.elim
    |true=>rw [hk] at p;refine jq p fun dv U p2=>?_;have M:=iH x;rw [KD.iF hk] at M;refine aA M fun y C=>?_;subst C;refine az hd fun c6 Y B=>az (qw (s:=y) B) fun oo h1 h2=>az (fin U h1 h2) fun u hu r=>rx.bI fun tk=>wpAny_getItem_of (knd:=strKind pr w) (strKind_is _ _ _ _) (IsDictOf.dictOf Y A).mapOf hu (h dv u _ r p2)
   |n=>
    have p:ao J (match KD.g9 (bh x) .n with|true=>Ax z (cW l x) q|false=> .no):=p;cases hk:KD.g9 (bh x) .n with
    |false=>rw [hk] at p;exact p.elim
    |true=>rw [hk] at p;refine jq p fun dv U p2=>?_;have M:=iH x;rw [KD.iF hk] at M;refine aA M fun y C=>?_;subst C;refine az hd fun xs Y B=>az (jS (fun Z Z=>ny) (s:=y) B) fun oo h1 h2=>az (fin U h1 h2) fun u hu r=>az (qu rx) fun ka C hy=>?_;subst C;obtain ⟨⟨kb,u'⟩,I4,e⟩:=Option.map_eq_some_iff.mp hu;exact wpAny_getItem_heap (knd:=fG pr w) (qF o.o8) hy (Y.at A (fE B)) I4 (h dv u' _ ((show u'=u from e)▸r) p2)
   |_=>exact p.elim
  |_=>exact p.elim
 |str t=>cases x with
  |int i=>cases i with
   |ofNat i=>
    have p:ao J (match small i with|true=>(match aL t.cps.toList i with|some c=>q (.str ⟨⟨[c]⟩⟩)|none=> .no)|false=> .no):=p;cases hi:small i with
    |false=>rw [hi] at p;exact p.elim
    |true=>
     cases hcc:aL t.cps.toList i with
     |none=>rw [hi,hcc] at p;exact p.elim
     |some cc=>
      rw [hi,hcc] at p;have hi:=jX hi;rw [aH] at hcc;have hlt:i<t.length:=by show i<t.cps.size;simpa using uh hcc
      refine rd.bI fun tk=>rx.aG fun tk'=>⟨_,_,typeIs_str s t tk,slot_str_getitem.lookup,getItem_str (c:=cc) ?_ ?_ (h _ _ _ (.str _ _) p)⟩
      ·simp only [Int.ofNat_eq_natCast,Bool.or_eq_false_iff,decide_eq_false_iff_not];exact p3 hi
      ·rw [wM hlt]
       simpa using hcc
   |negSucc _=>exact p.elim
  |_=>exact p.elim
 |fn a=>cases x with
  |int i=>cases i with
   |ofNat i=>
    have p:ao J (match aF PG.tab a with|some t=>(match aF t i with|some v=>q (.int v)|none=> .no)|none=> .no):=p;cases ht:aF PG.tab a with
    |none=>rw [ht] at p;exact p.elim
    |some t=>
     rw [ht] at p;have p:ao J (match aF t i with|some v=>q (.int v)|none=> .no):=p;refine az (mu (S.D3 o) ht) fun f hm hf=>?_;have hf':=hf i;cases U:aF t i with
     |none=>rw [U] at p;exact p.elim
     |some iv=>rw [U] at p hf';refine aA hf' fun tk hf'=>rd.jK (rx.aG fun tk'=>⟨_,_,hm.typeIs,PySem.F.slot_dict_getitem.lookup,wpAny_getItem_of (knd:=intKind pr w) (intKind_is _ _ _ _) hm hf' (h _ _ _ (.int _ _) p)⟩)
   |negSucc _=>exact p.elim
  |_=>exact p.elim
 |_=>exact p.elim
theorem Cx.aC.putD (S:c.aC w W σ ls s.heap) {r k H:Nat} {kd j4:KD} {l':zD} {a:Addr} {o':Obj} {I:Heap} (D:aN σ r k=some ⟨H,.dict kd l⟩) (G:W.ρ r k=some a) (hs:Heap.SameBut a s.heap I) (ho':I.get? a=some o')
  (hd:aX s.heap I→jf w W.ρ I j4 o' l'):∃L,c.aC w L (f_ z σ r k ⟨H+1,.dict j4 l'⟩) ls I∧Go W σ s.heap L (f_ z σ r k ⟨H+1,.dict j4 l'⟩) I:=by
 refine eg (S.DK D G) fun A hsm Z=>jH (S.cells.cell r k _ D) fun a' ea u em u=>?_;obtain rfl:a'=a:=bw (ea.symm.trans G);have t:=gF hs A (S.cells.cls _ em);have hx:=(hd t).ex;exact S.CP D G hs ho' (fun q=>by have:=q.1;rw [hx.1] at this;revert this;simp) fun L e1 e2 t=>⟨hsm,by rw [e1,e2];exact hd t⟩
theorem Obj.ql {K₁ K₂:Type} [DecidableEq K₁] [DecidableEq K₂] {k₁:KeyKind pr w K₁} {k₂:KeyKind pr w K₂} {o:Obj} (h:o.IsDictOf k₁ []):o.IsDictOf k₂ []:=by
 refine zg h fun es ep a b Z p Z=>?_;have:es= #[]:=by
  have:es.toList=[]:=by
   cases hq:es.toList with
   |nil=>rfl
   |cons x y=>rw [hq] at p;cases p
  exact Array.toList_inj.mp (by rw [this])
 subst this;exact ⟨#[],ep,a,b,fun e he=>absurd he (by simp),.nil,.nil⟩
theorem jf.empty {ρ:gJ} {h:Heap} {ob:Obj} (x:jf w ρ h .z ob l) (kd:KD):jf w ρ h kd ob []:=by
 cases kd with
 |z=>exact ⟨rfl,x.2⟩
 |s=>exact cJ [] (Obj.ql x.2) .nil
 |r=>exact cJ [] (DE.v_ x.2) .nil
 |n=>exact cJ [] (DE.v_ x.2) .nil
theorem sJ {Q:Unit→Shared→Prop} {v:DV} {V:Value} {r k H:Nat} {kd JC:KD} {l₀:zD} {a:Addr} {q:ah→RR} (o:c.Ok w n) (S:c.aC w W σ ls s.heap) (D:aN σ r k=some ⟨H,.dict JC l₀⟩) (G:W.ρ r k=some a) (hd:jf w W.ρ s.heap kd (W.ob r k) l) (hk:uU x kd) (hz:kd≠.z)
  (hsz:l.length≤5000) (rx:aP W.ρ s.heap x vx) (rv:aP W.ρ s.heap v V) (p:ao J (q (f_ z σ r k ⟨H+1,.dict kd (aM l x v)⟩)))
  (h:∀N L I tk,c.aC w L N ls I→Go W σ s.heap L N I→ao J (q N)→Q () (sh s I tk)):zw w c (setItem (.ref a) vx V) Q E s:=by
 have O:=g_;refine eg (S.DK D G) fun A hsm Z=>?_;cases kd with
 |z=>exact absurd rfl hz
 |s=>
  refine aA hk fun y C=>?_;subst C;refine az hd fun c6 Cn B=>?_;have hn:(c6.map (·.1)).Nodup:=by refine zg Cn fun Z Z Z Z Z Z hn=>?_;exact hn
  refine rx.bI fun tk=>wpAny_setItem_pairs (knd:=strKind pr w) (strKind_is _ _ _ _) (IsDictOf.dictOf Cn A) (fun I g hs=>?_) (by rw [B.length];exact I9 O hsz);refine az (Heap.dictOf_iff.mp g) fun o' ho' Y=>?_;obtain ⟨L,S',g'⟩:=S.putD D G hs ho' (j4:= .s) fun t'=>⟨_,Y,vP (rv.mono bC.refl t') (B.mono bC.refl t') hn⟩
  exact h _ L I _ S' g' p
 |r=>
  refine aA hk fun y C=>?_;subst C;refine az hd fun xs X B=>az (qv (w:=w) rx) fun ka C hy=>?_;subst C;refine wpAny_setItem_heap (knd:=jW pr w) (wz o.o8) hy (X.at A (fE B)) (fun I g hs=>?_) (by rw [B.length];exact I9 O hsz);refine p9 g fun o' es ep e1 e2 e3 e4 e5 e6=>?_;obtain ⟨L,S',g'⟩:=S.putD D G hs e1 (j4:= .r) fun t'=>⟨_,⟨e2,⟨es,ep,e3,e4⟩,e6⟩,vO (fun Z Z=>l8) (nH t' hy) (rv.mono bC.refl t') (B.mono (nH t') bC.refl t') X.2.2⟩
  exact h _ L I _ S' g' p
 |n=>
  refine aA hk fun y C=>?_;subst C;refine az hd fun xs X B=>az (qu rx) fun ka C hy=>?_;subst C;refine wpAny_setItem_heap (knd:=fG pr w) (qF o.o8) hy (X.at A (fE B)) (fun I g hs=>?_) (by rw [B.length];exact I9 O hsz);refine p9 g fun o' es ep e1 e2 e3 e4 e5 e6=>?_;obtain ⟨L,S',g'⟩:=S.putD D G hs e1 (j4:= .n) fun t'=>⟨_,⟨e2,⟨es,ep,e3,e4⟩,e6⟩,vO (fun Z Z=>ny) (qB t' hy) (rv.mono bC.refl t') (B.mono (qB t') bC.refl t') X.2.2⟩
  exact h _ L I _ S' g' p
theorem sP {Q:Unit→Shared→Prop} {v:DV} {q:ah→RR} {vd V:Value} (o:c.Ok w n) (S:c.aC w W σ ls s.heap) (rd:aP W.ρ s.heap d vd) (rx:aP W.ρ s.heap x vx) (rv:aP W.ρ s.heap v V) (p:ao J (AU z σ d x v q))
  (h:∀N L I tk,c.aC w L N ls I→Go W σ s.heap L N I→ao J (q N)→Q () (sh s I tk)):zw w c (setItem vd vx V) Q E s:=by
 cases d with
 |aj i k=>
  refine rd.bK fun a G=>bq p fun cz b D p=>?_;cases b with
  |list l=>cases x with
   |int i=>cases i with
    |ofNat i=>
     refine bN p fun hi p=>eH p (fun e p=>?_) fun u p=>p.elim;have hil:=dD (bw e);rw [z9,iT] at p;refine dB (S.tG D G) fun vs mm hg hr=>jH (S.cells.cell _ _ _ D) fun a' ea u em u=>?_;obtain rfl:a'=a:=bw (ea.symm.trans G);have hlen:=hr.length;have hs:Heap.SameBut a' s.heap (s.heap.update a' (Obj.mapSeq (·.setIfInBounds (Int.ofNat i).toNat V))):=Heap.SameBut.update ..;have N0:=Ac S em;refine az S.fr fun m F u=>rx.aG fun tk=>ki_setAt hg (by simp) (p2 hi) (by simp;exact RX hil hlen) ?_;have ho':(s.heap.update a' (Obj.mapSeq (·.setIfInBounds (Int.ofNat i).toNat V))).get? a'=some (bV (vs.set i V) mm):=by rw [PySem.IsL.update hg (fun y=>y.setIfInBounds (Int.ofNat i).toNat V)];simp
     obtain ⟨L,S',g'⟩:=S.CP (b:= .list (l.set i v)) D G hs ho' (fun q=>by have:=q.1;revert this;simp) fun L e1 e2 t=>⟨_,_,e2,by rw [e1];exact aO.set (rv.mono bC.refl t) (hr.mono bC.refl t)⟩
     exact h _ L _ _ S' g' p
    |negSucc _=>exact p.elim
   |_=>exact p.elim
  |dict kd l=>
   refine eg (S.DK D G) fun A hsm Z=>?_;have p0:=p;have M:=iH x;have one:∀(kd:KD),bh x=kd→kd≠.z→ao J (setC z σ i k cz (.dict kd [(x,v)]) q)→jf w W.ρ s.heap .z (W.ob i k) l→zw w c (setItem (.ref a) vx V) Q E s:=fun kd e hz p hd=>by rw [iT] at p;exact sJ (l:=[]) o S D G (hd.empty kd) (e▸M) hz (Nat.zero_le _) rx rv p h
   have two:∀{j4:KD} (hz:j4≠.z),kd=j4→ao J (match KD.g9 (bh x) kd with|true=>gG z l.length (oJ z l x v fun l=>setC z σ i k cz (.dict kd l) q)|false=> .no)→zw w c (setItem (.ref a) vx V) Q E s:=by
    intro j4 hz e p;subst e;cases hk:KD.g9 (bh x) kd with
    |false=>rw [hk] at p;exact p.elim
    |true=>rw [hk] at p;refine bN p fun hsz p=>?_;rw [rI,iT] at p;exact sJ o S D G Z (KD.iF hk▸M) hz hsz rx rv p h
   cases kd with
   |z=>
    have p:ao J (match bh x with| .z=> .no|kd=>setC z σ i k cz (.dict kd [(x,v)]) q):=p;cases hk:bh x with
    |z=>rw [hk] at p;exact p.elim
    |s=>rw [hk] at p;exact one .s hk (fun e=>nomatch e) p Z
    |r=>rw [hk] at p;exact one .r hk (fun e=>nomatch e) p Z
    |n=>rw [hk] at p;exact one .n hk (fun e=>nomatch e) p Z
   |s=>exact two (j4:= .s) (fun e=>nomatch e) rfl p
   |r=>exact two (j4:= .r) (fun e=>nomatch e) rfl p
   |n=>exact two (j4:= .n) (fun e=>nomatch e) rfl p
  |_=>exact p.elim
 |_=>exact p.elim
theorem A5 {Q:zQ} {v:Value} {q:DV→RR} (S:c.aC w W σ ls s.heap) (r:aP W.ρ s.heap d v) (p:ao J (JG z σ d q))
  (h:∀dv v' tk,aP W.ρ s.heap dv v'→ao J (q dv)→Q v' {s with toks:=tk}):zw w c (call (.builtin "len") [v]) Q E s:=by
 cases d with
 |ai l=>refine bN p fun hs p=>r.b_ fun a vs t r=>?_;rw [jM] at p;have R:=r.length;refine len_tuple (bD t) (by simp;exact Lo R hs) ?_;have:=h _ (.int (Int.ofNat l.length) (s.toks+1)) (s.toks+1+1) (.int _ _) p;rw [←R] at this;simpa using this
 |aj i k=>
  refine r.bK fun a G=>bq p fun cz b D p=>?_;cases b with
  |list l=>refine bN p fun hs p=>?_;rw [jM] at p;refine dB (S.tG D G) fun vs m hg hr=>?_;have R:=hr.length;refine len_list (cL hg) (by simp;exact Lo R hs) ?_;have:=h _ (.int (Int.ofNat l.length) (s.toks+1)) (s.toks+1+1) (.int _ _) p;rw [←R] at this;simpa using this
  |_=>exact p.elim
 |_=>exact p.elim
theorem snd_true {Qb:Bool→Shared→Prop} {v:Value} {t f:RR} (S:c.aC w W σ ls s.heap) (r:aP W.ρ s.heap d v) (p:ao J (iL z σ d t f))
  (h:∀b tk,ao J (match b with|true=>t|false=>f)→Qb b {s with toks:=tk}):zw w c (truthy v) Qb E s:=by
 have fin:∀{b:Bool} (tk:Nat),ao J (pU z (some b) t f)→Qb b {s with toks:=tk}:=fun tk p=>eH p (fun e p=>bw e▸h true tk p) fun e p=>bw e▸h false tk p;cases d with
 |bool b=>exact r.pT (wpAny_truthy_bool (fin s.toks p))
 |none=>exact r.cG (truthy_none (h false s.toks p))
 |int i=>
  refine r.aG fun tk=>P.truthy_int ?_;have e:(i !=0)=!ck i 0:=by rw [bJ];by_cases h:i=0<;>simp [h]
  rw [e];exact fin s.toks p
 |str y=>
  refine bN p fun hz p=>r.bI fun tk=>?_;have hlen:y.length=y.cps.toList.length:=by simp [Str.length]
  refine P.truthy_str (by omega) ?_;rw [hlen];cases hy:y.cps.toList with
  |nil=>rw [hy] at p;exact h false _ p
  |cons a l=>
   rw [hy] at p;have e:(((a::l).length:Int) !=0)=true:=by simp only [List.length_cons,bne_iff_ne,ne_eq];exact Vp
   rw [e];exact h true _ p
 |ai l=>
  refine bN p fun hz p=>r.b_ fun a vs t' r=>?_;have R:=r.length;refine truthy_tuple (bD t') (by simp;exact Lo R hz) ?_;cases l with
  |nil=>exact r.bW (h false _ p)
  |cons a l=>exact r.aQ fun Z Z Z Z=>h true _ p
 |aj i k=>
  refine r.bK fun a G=>bq p fun cz b D p=>?_;cases b with
  |list l=>
   refine bN p fun hz p=>dB (S.tG D G) fun vs m hg hr=>?_;have R:=hr.length;refine wpAny_truthy_list (cL hg) (by simp;exact Lo R hz) ?_;have e:(!vs.toArray.isEmpty)=Nat.blt 0 l.length:=by rw [blt_iff,←R];cases vs<;>simp
   rw [e];exact fin _ p
  |_=>exact p.elim
 |fn a=>exact p.elim
end
end
section
open scoped Classical
variable {Q:zQ} {vs:zV} {q:DV→ah→RR} {l:zL}
open Builtin in
theorem kG:fillsNumberSlot (.type "tuple") "mul" =pure false:=
 PySem.fillsNumberSlot_seq (id:="tuple.__mul__") (r:=some (.builtin "tuple.__rmul__")) PySem.F.slot_tuple_mul.lookup (by decide+kernel) PySem.F.slot_tuple_rmul.lookup (by decide+kernel)
theorem qO:seqRepeat? (.type "tuple")=pure (some (.builtin "tuple.__mul__")):=by unfold seqRepeat?;rw [PySem.seqSlot_of (T:="tuple") (name:="__mul__") (id:="tuple.__mul__") PySem.F.slot_tuple_mul.lookup (by decide+kernel),PySem.seqSlot_of (T:="tuple") (name:="__rmul__") (id:="tuple.__rmul__") PySem.F.slot_tuple_rmul.lookup (by decide+kernel)];rfl
theorem ng (a:Int) (t:Tok) (l:Addr) (o:Obj) (items:Array Value) (m:Nat) (C:o.cls= .type "tuple") (hd:o.data= .seq items m):
  Meets (Builtin.«int.__rmul__» ⟨[.int a t,.ref l],[]⟩) (fun Z R s=>s.heap.get? l=some o∧R (.ok (.ret Value.notImplemented)) s):=
 .of_wp fun prog w A R s h=>by obtain ⟨V,g,d,tk,os⟩:=s;obtain ⟨hl,h⟩:=h;obtain ⟨cls,dd,data,sl⟩:=o;simp only at C hd;subst C hd;wp_walk;exact cJ _ rfl h
theorem uP (l:Addr) (o:Obj) (items:Array Value) (m:Nat) (t:Tok) (C:o.cls= .type "tuple") (hd:o.data= .seq items m) (Y:items.isEmpty=false):
  Meets (Builtin.«tuple.__mul__» ⟨[.ref l,.int 0 t],[]⟩) (fun Z R s=>s.heap.get? l=some o∧R (.ok (.ret (.ref s.heap.objs.size))) {s with heap:=s.heap.push {cls:= .type "tuple",data:= .seq #[]}}):=
 .of_wp fun prog w A R s h=>by
  obtain ⟨V,g,d,tk,os⟩:=s;obtain ⟨hl,h⟩:=h;obtain ⟨cls,dd,data,sl⟩:=o;simp only at C hd;subst C hd
  wp_walk
  exact cJ _ rfl h
theorem Aj {w:World} {A:Around} {E:zQ} {s:Shared} {l:Addr} {t:Tok} (O:fu s.heap l vs) (Y:vs≠[])
  (h:Q (.ref s.heap.objs.size) {s with heap:=s.heap.push {cls:= .type "tuple",data:= .seq #[]}}):wpAny (M0 w) A (binaryOp .Mult (.ref l) (.int 0 t)) Q E s:=by
 refine lB O fun o items n ho C hd hi=>?_;have X:items.isEmpty=false:=by
  cases hq:items.isEmpty with
  |false=>rfl
  |true=>exact absurd (by rw [←hi];simpa using hq) Y
 exact wpAny_binaryOp_repeat_ref (T:="tuple") (U:="int") aD ⟨_,ho,C⟩ (fun s'=>typeIs_int s' 0 t) kG PySem.F.fills_int_mul PySem.F.slot_int_rmul qO PySem.F.slot_int_index.lookup
  (call_meets PySem.F.slot_int_rmul (typeIs_int s 0 t) PySem.F.entry_int_rmul (PySem.F.args_int_rmul_2 _ _) (ng 0 t l o items n C hd)
   ⟨ho,rfl,⟨_,ho,C⟩,call_meets PySem.F.slot_tuple_mul ⟨_,ho,C⟩ PySem.F.entry_tuple_mul (PySem.F.args_tuple_mul_2 _ _) (uP l o items n t C hd X) ⟨ho,h⟩⟩)
section
variable {w:World} {c:Cx} {W:Wd} {σ:ah} {ls:Lc} {s:Shared} {E:zQ} {n:Nat} {G:zP} {z:Bool} {av:Nat} {R:Prop}
theorem gV {b:CB} (p:ao G (cT z av σ b q)) (h:∀g,σ[av]?=some g→ao G (q (.aj av g.n) (ez z σ av b))→R):R:=by
 cases e:σ[av]? with
 |none=>unfold cT at p;rw [aH,e] at p;exact p.elim
 |some g=>exact h g e (qz (z:=z) (b:=b) (q:=q) e▸p)
theorem nK (S:c.aC w W σ ls s.heap) (N:aO W.ρ s.heap l vs) (p:ao G (cT z av σ (.list l) q))
  (h:∀dv B H D tk v',c.aC w H B ls D→Go W σ s.heap H B D→aP H.ρ D dv v'→ao G (q dv B)→Q v' (sh s D tk))
  {a:Addr} {D:Heap} {tk mm:Nat} (f:c.Goes s.heap D) (N':News c.g c.L D ((a,bV vs mm)::rB c W s.heap)) (hf:∀p∈W.led++c.ex,p.1≠a):Q (.ref a) (sh s D tk):=
 gV p fun g hg p=>by
  obtain ⟨H,S',G',e'⟩:=S.new1 (b:= .list l) hg f N' hf (fun q=>by have:=q.1;revert this;simp) fun H e1 le t=>⟨vs,mm,e1,N.mono le t⟩
  exact h _ _ H D tk _ S' G' (.aj e') p
theorem jb (S:c.aC w W σ ls s.heap) (N:aO W.ρ s.heap l vs) (p:ao G (cT z av σ (.list l) q))
  (h:∀dv B H D tk v',c.aC w H B ls D→Go W σ s.heap H B D→aP H.ρ D dv v'→ao G (q dv B)→Q v' (sh s D tk)):Q (.ref s.heap.objs.size) {s with heap:=s.heap.push (bV vs 0)}:=by
 refine az S.fr fun m F Z=>nK S N p h (tk:=s.toks) (mm:=0) ku (News.push F (nv S F) _) fun p V=>lM (gu S V)
theorem sM (S:c.aC w W σ ls s.heap) (N:aO W.ρ s.heap l vs):c.aC w W σ ls (s.heap.push {cls:= .type "tuple",data:= .seq vs.toArray})∧Go W σ s.heap W σ (s.heap.push {cls:= .type "tuple",data:= .seq vs.toArray})∧aP W.ρ (s.heap.push {cls:= .type "tuple",data:= .seq vs.toArray}) (.ai l) (.ref s.heap.objs.size):=by refine aZ (S.push (o:={cls:= .type "tuple",data:= .seq vs.toArray})) fun S' g=>?_;exact eo S' g (.ai ⟨_,_,_,Heap.get?_push_size _ rfl,rfl,rfl,by simp⟩ (N.go g))
theorem vY:∀{b a:Nat},Av b a=(a:Int) -(b:Int)
 |0,a=>by show (a:Int)=a -((0:Nat):Int);exact Vs
 |b+1,0=>(Int.zero_sub ((b+1:Nat):Int)).symm
 |b+1,a+1=>by show Av b a=_;rw [vY];exact Vt
theorem mj {a b:Int}:eF a b=a -b:=by
 cases a with
 |ofNat a=>cases b with
  |ofNat b=>exact vY
  |negSucc b=>rfl
 |negSucc a=>rfl
theorem borN {a b:Nat}:Builtin.bitOr (Int.ofNat a) (Int.ofNat b)=Int.ofNat (a|||b):=by
 show Builtin.bitNot (Builtin.bitAnd (Builtin.bitNot (a:Int)) (Builtin.bitNot (b:Int)))=_
 rw [bitAnd_nn (show¬0≤Builtin.bitNot (a:Int) from Lq) (show¬0≤Builtin.bitNot (b:Int) from Lq),bitNot_bitNot,bitNot_bitNot,bitNot_bitNot];rfl
theorem AY {op:yl} {a b r:Int} {t u:Tok} (h:binI op a b=some r) (k:∀tk K,Q (.int r tk) {s with toks:=K}):zw w c (binaryOp (ED op) (.int a t) (.int b u)) Q E s:=by
 cases op with
 |add=>have e:a+b=r:=bw h;subst e;exact add_int (k _ _)
 |sub=>have e:a -b=r:=mj.symm.trans (bw h);subst e;exact sub_int (k _ _)
 |mul=>
  cases a with
  |ofNat a=>cases b with
   |ofNat b=>
    have h:(match Nat.blt a 100000 with|true=>(match Nat.blt b 100000 with|true=>some (Int.ofNat (a*b))|false=>none)|false=>none)=some r:=h;cases I:Nat.blt a 100000 with
    |false=>rw [I] at h;exact aW h
    |true=>
     cases hb:Nat.blt b 100000 with
     |false=>rw [I,hb] at h;exact aW h
     |true=>rw [I,hb] at h;have e:Int.ofNat (a*b)=r:=bw h;subst e;have I:=dD I;have hb:=dD hb;exact mul_int (k _ _) (by show PySem.IntMulOk (a:Int) (b:Int);mul_fits)
   |negSucc b=>exact aW h
  |negSucc a=>exact aW h
 |mod=>
  cases b with
  |ofNat b=>cases b with
   |zero=>exact aW h
   |succ b=>have e:a%((b+1:Nat):Int)=r:=bw h;refine mod_int' (by simp only [Int.ofNat_eq_natCast];exact QF) ?_;have:=k s.toks (s.toks+1);rw [show a.fmod (Int.ofNat (b+1))=r from (Int.fmod_eq_emod_of_nonneg _ (Int.natCast_nonneg (b+1))).trans e];exact this
  |negSucc b=>exact aW h
 |fdiv=>
  cases b with
  |ofNat b=>cases b with
   |zero=>exact aW h
   |succ b=>
    have h:(match Nat.blt b 1000000 with|true=>some (a/((b+1:Nat):Int))|false=>none)=some r:=h;cases hb:Nat.blt b 1000000 with
    |false=>rw [hb] at h;exact aW h
    |true=>rw [hb] at h;have hb:=dD hb;have e:a/((b+1:Nat):Int)=r:=bw h;refine floordiv_int (by simp only [Int.ofNat_eq_natCast];exact R4 hb) ?_ (.inl (PyProof.noPylong_small (SH hb)));have:=k s.toks (s.toks+1);rw [show a.fdiv (Int.ofNat (b+1))=r from (Int.fdiv_eq_ediv_of_nonneg _ (Int.natCast_nonneg (b+1))).trans e];exact this
  |negSucc b=>exact aW h
 |band=>
  cases a with
  |ofNat a=>cases b with
   |ofNat b=>have e:Int.ofNat (a&&&b)=r:=bw h;subst e;refine and_int ?_;rw [bitAnd_pp (by simp) (by simp)];exact k _ _
   |negSucc b=>exact aW h
  |negSucc a=>exact aW h
 |bor=>
  cases a with
  |ofNat a=>cases b with
   |ofNat b=>
    have e0:Int.ofNat (a|||b)=r:=bw h;subst e0;refine or_int ?_;rw [borN];exact k _ _
   |negSucc b=>exact aW h
  |negSucc a=>exact aW h
theorem uf (n:Nat):(List.foldl (fun (x1 x2:Array Value)=>x1++x2) #[] (List.replicate (if vs.toArray.isEmpty=true then 0 else n) vs.toArray))=(repl n vs).toArray:=by
 have h:∀(n:Nat) (acc:Array Value),List.foldl (fun (x1 x2:Array Value)=>x1++x2) acc (List.replicate n vs.toArray)=acc++(repl n vs).toArray:=by
  intro n;induction n with
  |zero=>intro acc;exact Array.append_empty.symm
  |succ n ih=>intro acc;rw [List.replicate_succ,List.foldl_cons,ih,show repl (n+1) vs=vs++repl n vs from rfl];simp
 cases vs with
 |nil=>
  have:∀n,repl n ([]:zV)=[]:=by
   intro n;induction n with
   |zero=>rfl
   |succ n ih=>exact ih
  rw [this];rfl
 |cons v vs=>exact (h n #[]).trans (by simp)
theorem AX {op:yl} {x y:DV} {vx vy:Value} (S:c.aC w W σ ls s.heap) (rx:aP W.ρ s.heap x vx) (ry:aP W.ρ s.heap y vy) (p:ao G (BK z av σ op x y q))
  (h:∀dv B H D tk v',c.aC w H B ls D→Go W σ s.heap H B D→aP H.ρ D dv v'→ao G (q dv B)→Q v' (sh s D tk)):zw w c (binaryOp (ED op) vx vy) Q E s:=by
 cases x with
 |int a=>cases y with
  |int b=>
   have p:ao G (match binI op a b with|some i=>rP z i fun i=>q (.int i) σ|none=> .no):=p;cases hr:binI op a b with
   |none=>rw [hr] at p;exact p.elim
   |some r=>rw [hr] at p;have p:ao G (rP z r fun i=>q (.int i) σ):=p;rw [lU] at p;exact rx.aG fun Z=>ry.aG fun Z=>AY hr fun tk K=>h _ _ W s.heap K _ S .refl (.int _ _) p
  |_=>exact p.elim
 |aj r k=>cases op with
  |mul=>cases y with
   |int m=>cases m with
    |ofNat m=>
     refine rx.bK fun a I=>ry.aG fun t=>bq p fun cz b C p=>?_;cases b with
     |list l=>
      refine bN p fun P p=>bN p fun hsz p=>?_;rw [qf] at p;refine dB (S.tG C I) fun vs mm hg hr=>?_;have hlen:=hr.length;have hline:=g_;refine az S.fr fun mp F Z=>mul_list F (nv S F) hg (p1 P) (p2 P) ?_ (fun D F' N'=>?_)
      ·simp only [List.size_toArray,Int.ofNat_eq_natCast,Int.toNat_natCast,hlen]
       rw [Nat.mul_comm];exact fQ hsz aD
      ·rw [show (Int.ofNat m).toNat=m from rfl,uf] at N'
       exact nK S (hr.repl m) p h (mm:=0) (iP F F') N' fun p V=>lM (gu S V)
     |_=>exact p.elim
    |negSucc _=>exact p.elim
   |_=>exact p.elim
  |_=>exact p.elim
 |ai l=>cases op with
  |mul=>cases y with
   |int m=>
    have p:ao G (match ck m 0 with|true=>_|false=>RR.no):=p;cases hm:ck m 0 with
    |false=>rw [hm] at p;exact p.elim
    |true=>
     rw [hm] at p;have e:m=0:=dR (bJ.symm.trans hm);subst e;cases l with
     |nil=>exact p.elim
     |cons d l=>refine rx.b_ fun a vs t r=>ry.aG fun u=>Aj t (by intro e;subst e;cases r) ?_;refine eg (sM (l:=[]) (vs:=[]) S .nil) fun S' g' r'=>h _ _ W _ s.toks _ S' g' r' p
   |_=>exact p.elim
  |_=>exact p.elim
 |_=>exact p.elim
noncomputable def RD (m:BM):String:=match m with
 | .append=>"list.append"
 | .extend=>"list.extend"
 | .get=>"dict.get"
 | .split=>"str.split"
 | .count=>"list.count"
theorem xY {d:DV} {v:Value} {m:BM} {q:RR} {pl:Sem Bool} {Qm:Value×List Value→Shared→Prop} (o:c.Ok w n) (S:c.aC w W σ ls s.heap) (r:aP W.ρ s.heap d v) (p:ao G (DN PG z σ d m q)) (h:ao G q→Qm (.builtin (RD m),[v]) s):zw w c (getMethod v (nm (bmN m)) pl) Qm E s:=by
 revert h;cases d with
 |aj i k=>
  refine r.bK fun a I h=>bq p fun cz b C p=>?_;cases b with
  |list l=>
   refine dB (S.tG C I) fun vs mm hg hr=>?_;have hd:∀b,Value.ref a= .ref b→∃ob,s.heap.get? b=some ob∧ob.dict=none:=fun b e=>by cases e;exact cJ _ hg rfl
   cases m with
   |append=>exact getMethod_builtin (name:=("append" :Str)) (cL hg).typeIs PySem.F.plainAttrs_list PySem.F.slot_list_append PySem.F.type_list_append hd (h p)
   |extend=>exact getMethod_builtin (name:=("extend" :Str)) (cL hg).typeIs PySem.F.plainAttrs_list PySem.F.slot_list_extend PySem.F.type_list_extend hd (h p)
   |count=>exact getMethod_builtin (name:=("count" :Str)) (cL hg).typeIs PySem.F.plainAttrs_list PySem.F.slot_list_count PySem.F.type_list_count hd (h p)
   |_=>exact p.elim
  |dict kd l=>
   cases m with
   |get=>refine eg (S.DK C I) fun J hsm hd=>?_;exact getMethod_builtin (name:=("get" :Str)) ⟨_,J,hd.ex.1⟩ PySem.F.plainAttrs_dict PySem.F.slot_dict_get PySem.F.type_dict_get (fun b e=>by cases e;exact cJ _ J hd.ex.2.1) (h p)
   |_=>exact p.elim
  |_=>exact p.elim
 |fn a=>cases m with
  |get=>
   have p:ao G (match aF PG.tab a with|some _=>q|none=> .no):=p;cases O:aF PG.tab a with
   |none=>rw [O] at p;exact p.elim
   |some t=>rw [O] at p;refine az (mu (S.D3 o) O) fun f Z hf=>r.jK fun h=>(getMethod_builtin (name:=("get" :Str)) Z.typeIs PySem.F.plainAttrs_dict PySem.F.slot_dict_get PySem.F.type_dict_get Z.noDict (h p))
  |_=>exact p.elim
 |str y=>cases m with
  |split=>exact r.bI fun u h=>getMethod_builtin (name:=("split" :Str)) (typeIs_str _ _ _) PySem.F.plainAttrs_str PySem.F.slot_str_split PySem.F.type_str_split (fun u e=>nomatch e) (h p)
  |_=>exact p.elim
 |_=>exact p.elim
theorem sE {ρ:gJ} {h:Heap}:∀(l:List (Str×Tok)),aO ρ h (l.map fun p=>DV.str p.1) (strValues l)
 |[]=> .nil
 |p::l=> .cons (.str _ _) (sE l)
theorem y9 {A:Around} {ρ:gJ} {k:gi} {u:Value} (hu:A.units+9<cLine) (hx:aP ρ s.heap k.dv u):∀{l:zL} {vs:zV} {j:Nat},yZ l k.dv=some j→aO ρ s.heap l vs→∃e:Value→Bool,(∀y,y∈vs→SeqAt.EqAt A.in1 s y u (e y))∧vs.countP e=j∧∀a,e (.ref a)=true↔mH pr w s.heap k a:=by
 classical
 have Vb:A.in1.units+8<cLine:=by show A.units+1+8<_;exact RY hu
 intro l;induction l with
 |nil=>intro vs j h r;exact r.bW ⟨fun y=>match y with| .ref a=>decide (mH pr w s.heap k a)|_=>false,fun Z h=>(nomatch h),bw h,fun a=>decide_eq_true_iff⟩
 |cons d l ih=>
  intro vs j h r;have h:(match KD.g9 (bh d) .r with|true=>(match i_ d k.dv with|some a=>(match yZ l k.dv with|some b=>some (match a with|true=>b+1|false=>b)|none=>none)|none=>none)|false=>none)=some j:=h;cases hk:KD.g9 (bh d) .r with
  |false=>rw [hk] at h;exact aW h
  |true=>
   have hko:=iH d;rw [KD.iF hk] at hko;refine aA hko fun k' M=>?_;subst M;rw [hk,l8] at h;refine r.aQ fun y vs r1 r2=>?_;cases C:yZ l k.dv with
   |none=>rw [C] at h;exact aW h
   |some b=>
    rw [C] at h;refine iZ (ih C r2) fun e he hn hr=>az (qv (w:=w) r1) fun a M hy=>?_;subst M;have RP:e (.ref a)=decide (k'=k):=by
     by_cases q:k'=k
     ·subst q;rw [gH rfl];exact (hr a).mpr hy
     ·rw [nU q]
      cases z:e (.ref a) with
      |false=>rfl
      |true=>exact absurd ((jW pr w).inj hy ((hr a).mp z)) q
    refine n6 e (fun v hv=>?_) ?_ hr
    ·rcases dP hv with rfl|hv
     ·rw [RP];exact vB 8 A.in1 _ _ _ _ _ Vb l8 r1 hx
     ·exact he v hv
    ·rw [List.countP_cons,hn,RP]
     have h:=bw h;by_cases q:k'=k<;>simp only [q,decide_true,decide_false] at h⊢<;>simpa using h
end
end
section
open scoped Classical
variable {q:DV→ah→RR} {a:Addr} {d:DV} {v:Value} {x:DV} {J:Value} {vs:zV} {value:Expr} {pos:Pos}
section
variable {w:World} {c:Cx} {W:Wd} {σ:ah} {ls:Lc} {s:Shared} {E:zQ} {n:Nat} {C:zP} {z:Bool} {av:Nat} {Q:zQ}
abbrev Fin (w:World) (c:Cx) (W:Wd) (σ:ah) (ls:Lc) (s:Shared) (C:zP) (q:DV→ah→RR) (Q:zQ):Prop:=∀dv T R I tk v',c.aC w R T ls I→Go W σ s.heap R T I→aP R.ρ I dv v'→ao C (q dv T)→Q v' (sh s I tk)
theorem lu {r k v₀:Nat} {l l':zL} {vs':zV} {JS:Nat} {I:Heap} (S:c.aC w W σ ls s.heap) (K:aN σ r k=some ⟨v₀,.list l⟩) (L:W.ρ r k=some a) (hs:Heap.SameBut a s.heap I) (ho':I.get? a=some (bV vs' JS)) (hr:aO W.ρ s.heap l' vs')
  (p:ao C (setC z σ r k v₀ (.list l') fun σ=>q .none σ)) (h:Fin w c W σ ls s C q Q):Q .none {s with heap:=I}:=by
 rw [iT] at p;obtain ⟨R,S',g'⟩:=S.CP (b:= .list l') K L hs ho' (fun q=>by have:=q.1;revert this;simp) fun R e1 e2 t=>⟨vs',JS,e2,by rw [e1];exact hr.mono .refl t⟩
 exact h _ _ R I s.toks _ S' g' .none p
theorem sH (S:c.aC w W σ ls s.heap) (r:aP W.ρ s.heap d v) (rx:aP W.ρ s.heap x J) (p:ao C (uY z σ d x q)) (h:Fin w c W σ ls s C q Q):zw w c (call (.builtin "list.append") [v,J]) Q E s:=by
 cases d with
 |aj i k=>
  refine r.bK fun a L=>bq p fun cz b K p=>?_;cases b with
  |list l=>refine bN p fun hs p=>?_;rw [yK] at p;refine dB (S.tG K L) fun vs mm hg hr=>?_;have hl:=hr.length;have B:=g_;refine append_at hg (fun I Lm ho'=>lu S K L (vs':=vs++[J]) (JS:=mm+1) Lm (ho'.trans (by simp)) (aO.append (.cons rx .nil) hr) p h) (by simp;exact Vm B hl hs)
  |_=>exact p.elim
 |_=>exact p.elim
theorem sL (S:c.aC w W σ ls s.heap) (r:aP W.ρ s.heap d v) (rx:aP W.ρ s.heap x J) (p:ao C (vH z σ d x q)) (h:Fin w c W σ ls s C q Q):zw w c (call (.builtin "list.extend") [v,J]) Q E s:=by
 cases x with
 |aj i' k'=>cases d with
  |aj i k=>
   refine r.bK fun a L=>rx.bK fun a' ha'=>bq p fun cz b K p=>bq p fun W7 b' hc' p=>?_;cases b with
   |list l=>cases b' with
    |list l'=>refine bN p fun hs p=>?_;rw [yK] at p;refine dB (S.tG K L) fun vs mm hg hr=>dB (S.tG hc' ha') fun vs' JS hg' hr'=>?_;have hl:=hr.length;have O:=hr'.length;have B:=g_;have e:=PySem.IsL.update hg (fun y=>y++vs'.toArray);refine call_meets PySem.F.slot_list_extend ⟨_,hg,rfl⟩ PySem.F.entry_list_extend (PySem.F.args_list_extend_2 _ _) (PySem.AutoSeq1.list_extend_list_list_0 a vs.toArray mm a' vs'.toArray JS (extend_door (by simp;exact Vn hs B hl O)) (by simp;exact CC hs B hl O) (by simp;exact Vo hs B hl O)) ⟨hg,hg',?_⟩;exact lu S K L (vs':=vs++vs') (hs:=Heap.SameBut.update ..) (ho':=by rw [e];simp only [List.append_toArray];rfl) (hr:=aO.append hr' hr) p h
    |_=>exact p.elim
   |_=>exact p.elim
  |_=>exact p.elim
 |_=>exact p.elim
theorem sI {y:DV} {Y:Value} {kd:KD} {l:zD} {ob:Obj} {dv:DV} (o:c.Ok w n) (S:c.aC w W σ ls s.heap) (H:s.heap.get? a=some ob) (N:(a==sysModules)=false) (hd:jf w W.ρ s.heap kd ob l) (hk:uU x kd) (hz:kd≠.z) (rx:aP W.ρ s.heap x J) (ry:aP W.ρ s.heap y Y) (Z:b8 l x y=some dv)
  (p:ao C (q dv σ)) (h:Fin w c W σ ls s C q Q):zw w c (call (.builtin "dict.get") [.ref a,J,Y]) Q E s:=by
 have fin:∀{oo:Option DV} {f:Option Value},aY l x=some oo→Found W.ρ s.heap oo f→aP W.ρ s.heap dv (f.getD Y):=by
  intro oo f h2 h3;unfold b8 at Z;rw [h2] at Z;cases oo with
  |none=>have e:y=dv:=bw Z;have h3:f=none:=h3;rw [h3,←e];exact ry
  |some d=>have e:d=dv:=bw Z;refine az h3 fun v e2 r=>?_;rw [e2,←e];exact r
 cases kd with
 |z=>exact absurd rfl hz
 |s=>
  refine aA hk fun t G=>?_;subst G;refine az hd fun c6 Cn M=>az (qw (s:=t) M) fun oo V U=>?_;have hD:=IsDictOf.dictOf Cn H;refine rx.bI fun tk=>call_meetsIn PySem.F.slot_dict_get hD.typeIs PySem.F.entry_dict_get (PySem.F.args_dict_get_3 _ _ _) (meets_dict_get_default (strKind pr w) a (strKind_is _ _ _ _) N _) ⟨_,hD.mapOf,?_⟩;have r:=fin V U;cases hf:valueAt c6 t with
  |none=>rw [hf] at r;exact h _ _ W s.heap _ _ S .refl r p
  |some u=>rw [hf] at r;exact h _ _ W s.heap _ _ S .refl r p
 |r=>
  refine aA hk fun t G=>?_;subst G;refine az hd fun xs hix M=>az (qv (w:=w) rx) fun ka G hy=>?_;subst G;refine az (jS (fun X X=>l8) (s:=t) M) fun oo V U=>?_;have hD:=hix.at H (fE M);refine call_meetsIn PySem.F.slot_dict_get hD.typeIs PySem.F.entry_dict_get (PySem.F.args_dict_get_3 _ _ _) (meetsH_dict_get_default (jW pr w) a ka N _) ⟨wz o.o8,t,_,hy,hD,?_⟩;have r:=fin V U;cases hf:atKey xs t with
  |none=>rw [hf] at r;exact h _ _ W s.heap _ _ S .refl r p
  |some u=>rw [hf] at r;exact h _ _ W s.heap _ _ S .refl r p
 |n=>
  refine aA hk fun t G=>?_;subst G;refine az hd fun xs hix M=>az (qu rx) fun ka G hy=>?_;subst G;refine az (jS (fun X X=>ny) (s:=t) M) fun oo V U=>?_;have hD:=hix.at H (fE M);refine call_meetsIn PySem.F.slot_dict_get hD.typeIs PySem.F.entry_dict_get (PySem.F.args_dict_get_3 _ _ _) (meetsH_dict_get_default (fG pr w) a ka N _) ⟨qF o.o8,t,_,hy,hD,?_⟩;have r:=fin V U;cases hf:atKey xs t with
  |none=>rw [hf] at r;exact h _ _ W s.heap _ _ S .refl r p
  |some u=>rw [hf] at r;exact h _ _ W s.heap _ _ S .refl r p
theorem x6 {y:DV} {Y:Value} (o:c.Ok w n) (S:c.aC w W σ ls s.heap) (r:aP W.ρ s.heap d v) (rx:aP W.ρ s.heap x J) (ry:aP W.ρ s.heap y Y) (p:ao C (DQ PG z σ d x y q)) (h:Fin w c W σ ls s C q Q):zw w c (call (.builtin "dict.get") [v,J,Y]) Q E s:=by
 cases d with
 |aj i k=>
  refine r.bK fun a L=>bq p fun cz b K p=>?_;cases b with
  |dict kd l=>
   refine eg (S.DK K L) fun H N hd=>?_;have X:=iH x;have two:kd≠.z→ao C (match KD.g9 (bh x) kd with|true=>Ax z (b8 l x y) fun v=>q v σ|false=> .no)→zw w c (call (.builtin "dict.get") [.ref a,J,Y]) Q E s:=by
    intro hz p;cases hk:KD.g9 (bh x) kd with
    |false=>rw [hk] at p;exact p.elim
    |true=>rw [hk] at p;exact jq p fun dv Z p=>sI o S H N hd (KD.iF hk▸X) hz rx ry Z p h
   cases kd with
   |z=>
    have p:ao C (match bh x with| .z=> .no|_=>q y σ):=p;have one:∀j4,bh x=j4→j4≠.z→ao C (q y σ)→zw w c (call (.builtin "dict.get") [.ref a,J,Y]) Q E s:=fun j4 e hz p=>sI (l:=[]) o S H N (hd.empty j4) (e▸X) hz rx ry rfl p h;cases hk:bh x with
    |z=>rw [hk] at p;exact p.elim
    |s=>rw [hk] at p;exact one .s hk (fun e=>nomatch e) p
    |r=>rw [hk] at p;exact one .r hk (fun e=>nomatch e) p
    |n=>rw [hk] at p;exact one .n hk (fun e=>nomatch e) p
   |s=>exact two (fun e=>nomatch e) p
   |r=>exact two (fun e=>nomatch e) p
   |n=>exact two (fun e=>nomatch e) p
  |_=>exact p.elim
 |fn a=>cases x with
  |int i=>cases i with
   |ofNat i=>
    have p:ao C (match aF PG.tab a with|some t=>(match aF t i with|some v=>q (.int v) σ|none=>q y σ)|none=> .no):=p;cases ht:aF PG.tab a with
    |none=>rw [ht] at p;exact p.elim
    |some t=>
     rw [ht] at p;have p:ao C (match aF t i with|some v=>q (.int v) σ|none=>q y σ):=p;refine az (mu (S.D3 o) ht) fun f hm hf=>?_;have P:=hf i;refine r.jK (rx.aG fun tk'=>call_meetsIn PySem.F.slot_dict_get hm.typeIs PySem.F.entry_dict_get (PySem.F.args_dict_get_3 _ _ _) (meets_dict_get_default (intKind pr w) a (intKind_is _ _ _ _) (wH ht) _) ⟨_,hm,?_⟩);cases Z:aF t i with
     |none=>rw [Z] at p P;rw [show f (Int.ofNat i)=none from P];exact h _ _ W s.heap _ _ S .refl ry p
     |some iv=>rw [Z] at p P;refine aA P fun tk P=>?_;rw [show f (Int.ofNat i)=some (.int iv tk) from P];exact h _ _ W s.heap _ _ S .refl (.int _ _) p
   |negSucc _=>exact p.elim
  |_=>exact p.elim
 |_=>exact p.elim
theorem uL (S:c.aC w W σ ls s.heap) (r:aP W.ρ s.heap d v) (rx:aP W.ρ s.heap x J) (p:ao C (splitM z av σ d x q)) (h:Fin w c W σ ls s C q Q):zw w c (call (.builtin "str.split") [v,J]) Q E s:=by
 cases x with
 |str y=>cases d with
  |str x=>
   have p:ao C (match small x.length&&!(y.length==0)&&small (jt x y).length with|true=>_|false=>RR.no):=p;cases hs:small x.length&&!(y.length==0)&&small (jt x y).length with
   |false=>rw [hs] at p;exact p.elim
   |true=>
    rw [hs] at p;simp only [Bool.and_eq_true,Bool.not_eq_true'] at hs;have hs1:=jX hs.1.1;have B:=g_;have p:ao C (xK (fun (x:Str) k=>rR x.cps.toList fun l=>k (.str ⟨⟨l⟩⟩)) (jt x y) fun l=>cT z av σ (.list l) q):=p;rw [lZ (g:=fun z=>DV.str z) (fun z k=>by rw [rS])] at p;refine az S.fr fun m F hm=>r.bI fun Z=>rx.bI fun Z=>splitN1 F (nv S F) hs.1.2 (fun l I tk e F' N'=>?_) (Vq B hs1);have e':jt x y=l.map (·.1):=by rw [e];unfold jt Txt.split;cases (decide (x.length<y.length)||decide (Builtin.Str.strKind x<Builtin.Str.strKind y))<;>cases (Builtin.Str.occurrences x y 0 x.length (x.length+1)).isEmpty<;>rfl
    rw [e',List.map_map] at p;exact nK S (sE l) p h (mm:=0) (iP F F') N' fun p hp=>lM (gu S hp)
  |_=>exact p.elim
 |_=>exact p.elim
theorem uI (o:c.Ok w n) (S:c.aC w W σ ls s.heap) (r:aP W.ρ s.heap d v) (rx:aP W.ρ s.heap x J) (p:ao C (yY z σ d x q)) (h:Fin w c W σ ls s C q Q):zw w c (call (.builtin "list.count") [v,J]) Q E s:=by
 cases d with
 |aj i k=>
  refine r.bK fun a L=>bq p fun cz b K p=>?_;cases b with
  |list l=>
   have p:ao C (match KD.g9 (bh x) .r with|true=>_|false=>RR.no):=p;cases hk:KD.g9 (bh x) .r with
   |false=>rw [hk] at p;exact p.elim
   |true=>rw [hk] at p;refine bN p fun hs p=>eT p fun j hj p2=>?_;rw [jM] at p2;have X:=iH x;rw [KD.iF hk] at X;refine aA X fun k' G=>?_;subst G;refine dB (S.tG K L) fun vs m hg hr=>iZ (y9 (w:=w) (A:=c.A) (by have:=o.hu;show c.un+9<_;exact RZ this) rx hj hr) fun e he hn Z=>call_meets PySem.F.slot_list_count ⟨_,hg,rfl⟩ PySem.F.entry_list_count (PySem.F.args_list_count_2 _ _) (SeqAt.list_countAt a vs.toArray m none _ J e) ⟨hg,fun y hy=>he y (by simpa using hy),?_⟩;rw [show vs.toArray.toList.countP e=j from hn];exact h _ _ W s.heap _ _ S .refl (.int _ _) p2
  |_=>exact p.elim
 |_=>exact p.elim
theorem CZ {m:BM} {ds:zL} (o:c.Ok w n) (S:c.aC w W σ ls s.heap) (r:aP W.ρ s.heap d v) (rs:aO W.ρ s.heap ds vs) (p:ao C (LU PG z av σ d m ds q)) (h:Fin w c W σ ls s C q Q):zw w c (call (.builtin (RD m)) (v::vs)) Q E s:=by
 cases ds with
 |nil=>exact p.elim
 |cons x ds=>
  refine rs.aQ fun J vs rx rs=>?_;cases ds with
  |nil=>
   refine rs.bW ?_;cases m with
   |append=>exact sH S r rx p h
   |extend=>exact sL S r rx p h
   |split=>exact uL S r rx p h
   |count=>exact uI o S r rx p h
   |get=>exact p.elim
  |cons y ds=>
   refine rs.aQ fun Y vs ry rs=>?_;cases ds with
   |nil=>
    refine rs.bW ?_;cases m with
    |get=>exact x6 o S r rx ry p h
    |_=>exact p.elim
   |cons _ _=>exact p.elim
theorem sU {q:List DV→RR} (S:c.aC w W σ ls s.heap) (r:aP W.ρ s.heap d v) (p:ao C (fD z σ d fun Z l=>q l))
  (h:∀l R I tk v',c.aC w R σ ls I→Go W σ s.heap R σ I→aP R.ρ I (.ai l) v'→ao C (q l)→Q v' (sh s I tk)):zw w c (call (.type "tuple") [v]) Q E s:=by
 cases d with
 |ai l=>exact bN p fun Z p=>r.b_ fun a vs t r=>call_tuple_tup (bD t) (h l W s.heap s.toks _ S .refl (.ai t r) p)
 |aj i k=>
  refine r.bK fun a L=>bq p fun cz b K p=>?_;cases b with
  |list l=>refine bN p fun hs p=>dB (S.tG K L) fun vs mm hg hr=>?_;have hl:=hr.length;refine az S.fr fun m F M3=>kde_tupleOf F (nv S F) (cL hg) (by simp;exact Vr hl hs) (zs:=vs) (by simp) (fun D I F' N' Z=>?_);refine aZ (S.stand (iP F F') fun p hp=>N' p (.tail _ hp)) fun S' g'=>?_;exact h l W I _ _ S' g' (.ai ⟨_,_,_,(N' _ (.head _)).1,rfl,rfl,by simp⟩ (hr.go g')) p
  |_=>exact p.elim
 |_=>exact p.elim
theorem xS {a:Nat}:slicePick vs.toArray (some (Int.ofNat a)) none none=(vs.drop a).toArray:=by
 have e:sliceBounds (some (Int.ofNat a)) none none vs.toArray.size=(((min a vs.toArray.size:Nat):Int),((vs.toArray.size:Nat):Int),1):=by
  simp only [sliceBounds,Option.getD_none,show (1:Int)>0 by decide,if_true,Int.ofNat_eq_natCast,aS (show ¬((a:Int)<0) by exact k0)];congr 1
  exact R0
 rw [kmk_pick_nat _ e];congr 1
 simp only [List.size_toArray];rw [kmk_drop_min,List.take_of_length_le];simp only [List.length_drop];exact Vu
theorem xT {b:Nat}:slicePick vs.toArray none (some (Int.ofNat b)) none=(vs.take b).toArray:=by
 have e:sliceBounds none (some (Int.ofNat b)) none vs.toArray.size=(((0:Nat):Int),((min b vs.toArray.size:Nat):Int),1):=by
  simp only [sliceBounds,Option.getD_none,show (1:Int)>0 by decide,if_true,Int.ofNat_eq_natCast,aS (show ¬((b:Int)<0) by exact k0)];congr 1
  congr 1
  exact R0
 rw [kmk_pick_nat _ e];congr 1
 simp only [List.size_toArray,List.drop_zero,Nat.sub_zero];rw [kmk_take_min]
theorem yd {x:Str} {a:Nat}:Txt.slice x (some (Int.ofNat a)) none=kO x a:=by unfold Txt.slice kO;simp only [beq_self_eq_true,Bool.true_and];cases (Builtin.Str.strSliceIndices (some (Int.ofNat a)) none 1 x.length).length==x.length<;>rfl
noncomputable abbrev Ek (vl vu:Value):Obj:={cls:= .type "slice",data:= .fields #[vl,vu,.none]}
theorem sN {l':zL} {vs':zV} {vl vu:Value} {lo' hi':Option Int} {mm:Nat} {x y:Option Expr} (S:c.aC w W σ ls s.heap) (hg:s.heap.get? a=some (bV vs mm)) (hl:vs.length≤5000)
  (pl:IsPart vl lo') (pu:IsPart vu hi') (e:slicePick vs.toArray lo' hi' none=vs'.toArray) (hr:aO W.ρ s.heap l' vs') (p:ao C (cT z av σ (.list l') q)) (h:Fin w c W σ ls s C q Q):
  zw w c (subscriptTail value (.Slice x y none pos) (.ref a) (.ref s.heap.objs.size)) Q E {s with heap:=s.heap.push (Ek vl vu)}:=by
 have B:=g_;have O:(s.heap.push (Ek vl vu)).IsList a vs.toArray:=⟨_,Heap.get?_push_of_some _ hg,rfl,mm,rfl⟩
 refine aZ (S.push (o:=Ek vl vu)) fun S1 g1=>tail_any (Heap.IsList.typeIs (s:={s with heap:=s.heap.push (Ek vl vu)}) O) slot_list_getitem.lookup (wpAny_getItem_list_slice (lo:=lo') (hi:=hi') (st:=none) O (Heap.IsSliceOf.new _ _ _ _) pl pu .none (by simp) ?_ (by simp;exact I9 B hl)) rfl;rw [e];exact jb (s:={s with heap:=s.heap.push (Ek vl vu)}) S1 (hr.go g1) p fun dv T R I tk v' S' g' r' p'=>h dv T R I tk v' S' (g1.trans g') r' p'
theorem x9 {b:DV} {vb:Value} {y:Option Expr} (S:c.aC w W σ ls s.heap) (r:aP W.ρ s.heap d v) (rb:aP W.ρ s.heap b vb) (p:ao C (Em z av σ d b q)) (h:Fin w c W σ ls s C q Q):
  zw w c (subscriptTail value (.Slice none y none pos) v (.ref s.heap.objs.size)) Q E {s with heap:=s.heap.push (Ek .none vb)}:=by
 cases d with
 |aj i k=>
  refine r.bK fun a L=>bq p fun cz bb K p=>?_;cases bb with
  |list l=>cases b with
   |int j=>
   refine jq p fun d e p=>?_;cases e;cases j with
    |ofNat j=>refine bN p fun hsz p=>rb.aG fun tk=>?_;rw [qf] at p;refine dB (S.tG K L) fun vs mm hg hr=>sN S hg (hr.length▸hsz) .none (.int _ _) xT (hr.take j) p h
    |negSucc _=>exact p.elim
   |_=>exact p.elim
  |_=>exact p.elim
 |_=>exact p.elim
theorem x_ {b:DV} {vb:Value} {x:Option Expr} (S:c.aC w W σ ls s.heap) (r:aP W.ρ s.heap d v) (rb:aP W.ρ s.heap b vb) (p:ao C (En z av σ d b q)) (h:Fin w c W σ ls s C q Q):
  zw w c (subscriptTail value (.Slice x none none pos) v (.ref s.heap.objs.size)) Q E {s with heap:=s.heap.push (Ek vb .none)}:=by
 cases d with
 |aj i k=>
  refine r.bK fun a L=>bq p fun cz bb K p=>?_;cases bb with
  |list l=>cases b with
   |int j=>cases j with
    |ofNat j=>refine bN p fun hsz p=>rb.aG fun tk=>?_;rw [qf] at p;refine dB (S.tG K L) fun vs mm hg hr=>sN S hg (hr.length▸hsz) (.int _ _) .none xS (hr.drop j) p h
    |negSucc _=>exact p.elim
   |_=>exact p.elim
  |_=>exact p.elim
 |str t=>cases b with
  |int j=>cases j with
   |ofNat a=>
    have p:ao C (match small t.length with|true=>_|false=>RR.no):=p;cases hs:small t.length with
    |false=>rw [hs] at p;exact p.elim
    |true=>rw [hs] at p;have p:ao C (rR (kO t a).cps.toList fun l=>q (.str ⟨⟨l⟩⟩) σ):=p;rw [rS] at p;have hsz:=jX hs;have B:=g_;refine r.bI fun tk=>rb.aG fun tk'=>aZ (S.push (o:=Ek (.int (Int.ofNat a) tk') .none)) fun S1 g1=>tail_any (typeIs_str _ _ _) slot_str_getitem.lookup (wpAny_getItem_str_slice (l:=some (Int.ofNat a,tk')) (u:=none) (st:=none) ⟨_,Heap.get?_push_size _ rfl,rfl,rfl⟩ rfl (post_val_or_str ⟨fQ (Txt.slice_le t _ _) (I9 B hsz),fun t' k=>?_⟩)) rfl;have:=h _ _ W _ k _ S1 g1 (.str _ t') p;rw [show (⟨⟨(kO t a).cps.toList⟩⟩:Str)=kO t a from rfl,←yd] at this;exact this
   |negSucc _=>exact p.elim
  |_=>exact p.elim
 |_=>exact p.elim
end
end
section
open scoped Classical
variable {x y:DV} {D:Value} {b:Bool} {J:Value}
section
variable {w:World} {c:Cx} {W:Wd} {σ:ah} {ls:Lc} {s:Shared} {Q E:zQ} {n:Nat} {A:Around} {ρ:gJ}
theorem lQ {u:Value} (hu:A.units+9<cLine) (hx:aP ρ s.heap x u):∀{l:zL} {vs:zV} {b:Bool},iX l x=some b→aO ρ s.heap l vs→∃e:Value→Bool,(∀y,y∈vs→SeqAt.EqAt A.in1 s y u (e y))∧vs.any e=b:=by
 classical
 have U:A.in1.units+8<cLine:=by show A.units+1+8<_;exact RY hu
 intro l;induction l with
 |nil=>intro vs b h r;exact r.bW ⟨fun Z=>false,fun Z h=>(nomatch h),bw h⟩
 |cons d l ih=>
  intro vs b h r;have h:(match i_ d x with|some a=>(match iX l x with|some b=>some (a||b)|none=>none)|none=>none)=some b:=h;cases hd:i_ d x with
  |none=>rw [hd] at h;exact aW h
  |some a=>
   cases hi:iX l x with
   |none=>rw [hd,hi] at h;exact aW h
   |some b'=>
    rw [hd,hi] at h;have h:(a||b')=b:=bw h;subst h;refine r.aQ fun y vs r1 p=>az (ih hi p) fun e he G=>?_;have q:=vB 8 A.in1 _ _ _ _ _ U hd r1 hx;cases a with
    |true=>
     refine cJ (fun v=>decide (v=y)||e v) (fun v L=>?_) (by rw [List.any_cons,gH rfl];rfl);show SeqAt.EqAt A.in1 s v u (decide (v=y)||e v);by_cases z:v=y
     ·subst z;rw [gH rfl];exact q
     ·rw [nU z];exact he v ((dP L).resolve_left z)
    |false=>
     refine cJ (fun v=>decide (v∈vs)&&e v) (fun v L=>?_) ?_
     ·show SeqAt.EqAt A.in1 s v u (decide (v∈vs)&&e v)
      by_cases z:v∈vs
      ·rw [gH z];exact he v z
      ·rw [nU z];cases (dP L).resolve_right z;exact q
     ·have h1:(vs.any fun v=>decide (v∈vs)&&e v)=vs.any e:=by rw [Bool.eq_iff_iff,List.any_eq_true,List.any_eq_true];exact ⟨fun ⟨v,L,z⟩=>⟨v,L,(Bool.and_eq_true_iff.mp z).2⟩,fun ⟨v,L,z⟩=>⟨v,L,Bool.and_eq_true_iff.mpr ⟨gH L,z⟩⟩⟩
      rw [List.any_cons,h1,G];by_cases z:y∈vs
      ·rw [gH z]
       cases ey:e y with
       |false=>rfl
       |true=>exact (List.any_eq_true.mpr ⟨y,z,ey⟩).symm.trans G▸rfl
      ·rw [nU z];rfl
theorem vV {R:Prop} {l:zL} (e:i7 σ y=some l) (S:c.aC w W σ ls s.heap) (r:aP W.ρ s.heap y D)
  (C:∀a vs,s.heap.IsList a vs.toArray→aO W.ρ s.heap l vs→D= .ref a→R) (F:∀a vs,s.heap.IsTuple a vs.toArray→aO W.ρ s.heap l vs→D= .ref a→R):R:=by
 cases y with
 |ai k=>revert C F;exact r.b_ fun a vs t r C F=>F a vs (bD t) (bw e▸r) rfl
 |aj i k=>
  have e:(match aN σ i k with|some c=>(match c.b with| .list l=>some l|_=>none)|none=>none)=some l:=e;cases M:aN σ i k with
  |none=>rw [M] at e;exact aW e
  |some cl=>
   rw [M] at e;obtain ⟨cz,b⟩:=cl;cases b with
   |list k'=>revert C F;refine r.bK fun a Z C F=>dB (S.tG M Z) fun vs m hg hr=>C a vs (cL hg) (bw e▸hr) rfl
   |_=>exact aW e
 |_=>exact aW e
theorem vK {R:Prop} (h:m_ σ x y=some b) (k:∀l,i7 σ y=some l→iX l x=some b→R):R:=by
 have h:(match i7 σ y with|some l=>iX l x|none=>none)=some b:=h;cases e:i7 σ y with
 |none=>rw [e] at h;exact aW h
 |some l=>rw [e] at h;exact k l e h
theorem Cx.Ok.u9 (o:c.Ok w n):c.A.units+9<cLine:=by have:=o.hu;show c.un+9<_;exact RZ this
theorem C4 (o:c.Ok w n) (h:m_ σ x y=some b) (S:c.aC w W σ ls s.heap) (rx:aP W.ρ s.heap x J) (K:aP W.ρ s.heap y D) (k:Q (.bool b) s):zw w c (compareOp .In J D) Q E s:=
 vK h fun l C hd=>vV C S K
  (fun a vs t r e=>by refine az (lQ o.u9 rx hd r) fun f hf G=>?_;exact e▸SeqAt.in_listAt f t (fun y H=>hf y (List.mem_toArray.mp H)) (by rw [List.any_toArray,G];exact k))
  (fun a vs t r e=>by refine az (lQ o.u9 rx hd r) fun f hf G=>?_;exact e▸SeqAt.in_tupleAt f t (fun y H=>hf y (List.mem_toArray.mp H)) (by rw [List.any_toArray,G];exact k))
theorem uJ (o:c.Ok w n) (h:m_ σ x y=some b) (S:c.aC w W σ ls s.heap) (rx:aP W.ρ s.heap x J) (K:aP W.ρ s.heap y D) (k:Q (.bool (!b)) s):zw w c (compareOp .NotIn J D) Q E s:=
 vK h fun l C hd=>vV C S K
  (fun a vs t r e=>by refine az (lQ o.u9 rx hd r) fun f hf G=>?_;exact e▸SeqAt.notIn_listAt f t (fun y H=>hf y (List.mem_toArray.mp H)) (by rw [List.any_toArray,G];exact k))
  (fun a vs t r e=>by refine az (lQ o.u9 rx hd r) fun f hf G=>?_;exact e▸SeqAt.notIn_tupleAt f t (fun y H=>hf y (List.mem_toArray.mp H)) (by rw [List.any_toArray,G];exact k))
theorem C5 (o:c.Ok w n) (h:n7 PG x y=some b) (S:c.aC w W σ ls s.heap) (rx:aP W.ρ s.heap x J) (K:aP W.ρ s.heap y D) (k:∀tk,Q (.bool b) {s with toks:=tk}):zw w c (compareOp .In J D) Q E s:=by
 cases x with
 |int i=>cases i with
  |negSucc i=>exact aW h
  |ofNat i=>cases y with
   |fn a=>
    have h:(match aF PG.tab a with|some t=>some (match aF t i with|some _=>true|none=>false)|none=>none)=some b:=h;cases F:aF PG.tab a with
    |none=>rw [F] at h;exact aW h
    |some t=>
     rw [F] at h;have h:=bw h;refine az (mu (S.D3 o) F) fun f hm hf=>?_;have B:=hf i;refine K.jK (rx.aG fun u=>wpAny_in_of (knd:=intKind pr w) (intKind_is _ _ _ _) (wH F) hm ?_);cases C:aF t i with
     |some v=>rw [C] at B h;refine aA B fun tk B=>?_;rw [show f (Int.ofNat i)=_ from B];subst h;exact k _
     |none=>rw [C] at B h;rw [show f (Int.ofNat i)=_ from B];subst h;exact k _
   |_=>exact aW h
 |str x=>cases y with
  |str y=>exact rx.bI fun Z=>K.bI fun Z=>PyProof.Rows.in_str (bw h▸k _)
  |_=>exact aW h
 |_=>exact aW h
theorem A8 (o:c.Ok w n) (h:vX σ x y=some b) (S:c.aC w W σ ls s.heap) (rx:aP W.ρ s.heap x J) (K:aP W.ρ s.heap y D) (k:∀tk,Q (.bool b) {s with toks:=tk}):zw w c (compareOp .NotIn J D) Q E s:=by
 cases y with
 |aj i j=>
  have h:(match aN σ i j with|some c=>(match c.b with| .dict kd l=>(match kd with| .n=>(match KD.g9 (bh x) .n with|true=>(match aY l x with|some o=>(match o with|some _=>some false|none=>some true)|none=>none)|false=>none)|_=>none)|_=>none)|none=>none)=some b:=h;cases M:aN σ i j with
  |none=>rw [M] at h;exact aW h
  |some cl=>
   rw [M] at h;obtain ⟨cz,cb⟩:=cl;cases cb with
   |dict kd l=>cases kd with
    |n=>
     have h:(match KD.g9 (bh x) .n with|true=>(match aY l x with|some o=>(match o with|some _=>some false|none=>some true)|none=>none)|false=>none)=some b:=h;cases hk:KD.g9 (bh x) .n with
     |false=>rw [hk] at h;exact aW h
     |true=>
      rw [hk] at h;have P:=iH x;rw [KD.iF hk] at P;refine aA P fun t N=>?_;subst N;refine K.bK fun a Z=>?_;obtain ⟨T,V,xs,Y,O⟩:=S.DK M Z;refine az (qu rx) fun ka N H=>?_;subst N;refine az (jS (fun U U=>ny) (s:=t) O) fun g X I=>wpAny_notIn_heap (knd:=fG pr w) (qF o.o8) H V (Y.at T (fE O)) ?_;rw [X] at h;cases hf:atKey xs t with
      |none=>
       rw [hf] at I;cases g with
       |none=>cases bw h;exact k _
       |some d=>refine az I fun v z U=>?_;exact aW z
      |some u=>
       rw [hf] at I;cases g with
       |none=>exact aW (Eq.symm I)
       |some d=>cases bw h;exact k _
    |_=>exact aW h
   |_=>exact aW h
 |_=>exact aW h
end
end
section
open scoped Classical
variable {q:DV→DV→Bool} {x y b:Addr} {ob:Obj} {es:Array DictEntry} {ep:Nat} {m:zD} {d:DV} {l:zD}
section
variable {w:World} {c:Cx} {W:Wd} {σ:ah} {ls:Lc} {s:Shared} {Q E:zQ} {n:Nat} {A:Around} {ρ:gJ}
abbrev Lf (A:Around) (s:Shared) (v u:Value):Prop:=SeqAt.EqAt A s v u true∧SeqAt.RcAt A s v u true∧SeqAt.RcNeAt A s v u false
theorem u7 {α:Type} [BEq α] [LawfulBEq α] {a b:α} (h:a=b):(a==b)=true:=h▸BEq.rfl
theorem m5 (N:∀a b v u,q a b=true→aP ρ s.heap a v→aP ρ s.heap b u→SeqAt.EqAt A.in1 s v u true) {l:zL}:∀{k:zL} {vs us:zV},lE q l k=true→aO ρ s.heap l vs→aO ρ s.heap k us→vs.length=us.length∧∀j (B:j<vs.length) (C:j<us.length),SeqAt.EqAt A.in1 s vs[j] us[j] true:=by
 induction l with
 |nil=>
  intro k Z Z e H G;cases k with
  |nil=>exact H.bW (G.bW ⟨rfl,fun Z h=>absurd h (Nat.not_lt_zero _)⟩)
  |cons=>exact nof e
 |cons a l ih=>
  intro k Z Z e H G;cases k with
  |nil=>exact nof e
  |cons b k=>
  refine H.aQ fun v vs H q1=>G.aQ fun u us G q2=>?_;have e:(match q a b with|true=>lE q l k|false=>false)=true:=e;cases h:q a b with
  |false=>rw [h] at e;exact nof e
  |true=>
   rw [h] at e;refine aZ (ih e q1 q2) fun B C=>⟨congrArg (·+1) B,fun j=>?_⟩
   cases j with
   |zero=>exact fun Z Z=>N _ _ _ _ h H G
   |succ j=>exact fun l1 l2=>C j (Nat.lt_of_succ_lt_succ l1) (Nat.lt_of_succ_lt_succ l2)
theorem DI {n:Nat}:(List.range n).all (fun Z=>true)=true:=List.all_eq_true.mpr fun Z Z=>rfl
theorem rY (h:SeqAt.RcAt A s (.ref x) (.ref y) true) (h':SeqAt.RcNeAt A s (.ref x) (.ref y) false):Lf A s (.ref x) (.ref y):=by
 refine eo ?_ h h';by_cases e:x=y
 ·subst e;exact SeqAt.EqAt.same _
 ·exact SeqAt.EqAt.of_refs e h
theorem xD {vs us:zV} (t1:s.heap.IsList x vs.toArray) (t2:s.heap.IsList y us.toArray) (hu:A.units<cLine) (X:vs.length=us.length) (hi:∀j (B:j<vs.length) (C:j<us.length),SeqAt.EqAt A.in1 s vs[j] us[j] true):Lf A s (.ref x) (.ref y):=by
 have h:=SeqAt.RcAt.lists (e:=fun Z=>true) t1 t2 (by simpa using X) hu fun j B C=>by simpa using hi j (by simpa using B) (by simpa using C)
 have h':=SeqAt.RcNeAt.lists (e:=fun Z=>true) t1 t2 (by simpa using X) hu fun j B C=>by simpa using hi j (by simpa using B) (by simpa using C)
 rw [DI] at h h';exact rY h h'
theorem zU {vs us:zV} (t1:s.heap.IsTuple x vs.toArray) (t2:s.heap.IsTuple y us.toArray) (hu:A.units<cLine) (X:vs.length=us.length) (hi:∀j (B:j<vs.length) (C:j<us.length),SeqAt.EqAt A.in1 s vs[j] us[j] true):Lf A s (.ref x) (.ref y):=by
 have h:=SeqAt.RcAt.tuples (e:=fun Z=>true) t1 t2 hu fun j B C=>by simpa using hi j (by simpa using B) (by simpa using C)
 have h':=SeqAt.RcNeAt.tuples (e:=fun Z=>true) t1 t2 hu fun j B C=>by simpa using hi j (by simpa using B) (by simpa using C)
 rw [DI,u7 (show vs.toArray.size=us.toArray.size by simpa using X)] at h h';exact rY h h'
theorem vC (S:c.aC w W σ ls s.heap) (hu:A.units<cLine) (N:∀a b v u,q a b=true→aP W.ρ s.heap a v→aP W.ρ s.heap b u→SeqAt.EqAt A.in1 s v u true) {a b:DV} {v u:Value} (h:uc σ q a b=true) (H:aP W.ρ s.heap a v) (G:aP W.ρ s.heap b u):Lf A s v u:=by
 cases a with
 |none=>cases b with
  |none=>exact H.cG (G.cG ⟨.same _,.none_none,.none_none⟩)
  |_=>exact nof h
 |int i=>cases b with
  |int j=>refine H.aG fun t=>G.aG fun t'=>?_;have e:=u7 (dR (bJ.symm.trans h));have B:=SeqAt.EqAt.int_int (A:=A) (s:=s) i t j t';have C:=SeqAt.RcAt.int_int (A:=A) (s:=s) i t j t';have V:=SeqAt.RcNeAt.int_int (A:=A) (s:=s) i t j t';rw [e] at B C V;exact eo B C V
  |_=>exact nof h
 |str i=>cases b with
  |str j=>refine H.bI fun t=>G.bI fun t'=>?_;have e:=u7 (dR (b9.symm.trans h));have B:=SeqAt.EqAt.str_str (A:=A) (s:=s) i t j t';have C:=SeqAt.RcAt.str_str (A:=A) (s:=s) i t j t';have V:=SeqAt.RcNeAt.str_str (A:=A) (s:=s) i t j t';rw [e] at B C V;exact eo B C V
  |_=>exact nof h
 |ai l=>cases b with
  |ai k=>refine H.b_ fun x vs t q1=>G.b_ fun y us t2 q2=>aZ (m5 (A:=A) N h q1 q2) fun B C=>zU (bD t) (bD t2) hu B C
  |_=>exact nof h
 |aj i k=>cases b with
  |aj i' k'=>
   have h:(match i7 σ (.aj i k) with|some l=>(match i7 σ (.aj i' k') with|some l'=>lE q l l'|none=>false)|none=>false)=true:=h;cases e1:i7 σ (.aj i k) with
   |none=>rw [e1] at h;exact nof h
   |some l=>
    cases e2:i7 σ (.aj i' k') with
    |none=>rw [e1,e2] at h;exact nof h
    |some l'=>
     rw [e1,e2] at h;have SE:∀{i k v} {l:zL},aP W.ρ s.heap (.aj i k) v→i7 σ (.aj i k)=some l→∃a vs,s.heap.IsList a vs.toArray∧aO W.ρ s.heap l vs∧v= .ref a:=fun {i k v l} r e=>by
      have e:(match aN σ i k with|some c=>(match c.b with| .list l=>some l|_=>none)|none=>none)=some l:=e;cases hc:aN σ i k with
      |none=>rw [hc] at e;exact aW e
      |some cl=>
       rw [hc] at e;obtain ⟨cz,b⟩:=cl;cases b with
       |list k'=>refine r.bK fun a U=>dB (S.tG hc U) fun vs m hg hr=>xC a vs (cL hg) (bw e▸hr) rfl
       |_=>exact aW e
     refine tY (SE H e1) fun x vs t1 q1 Mg=>?_;subst Mg;refine tY (SE G e2) fun y us t2 q2 Mg=>?_;subst Mg;refine aZ (m5 (A:=A) N h q1 q2) fun B C=>xD t1 t2 hu B C
  |_=>exact nof h
 |_=>exact nof h
theorem c7 {a b:Bool} {R:Prop} (h:(a||b)=true) (B:a=true→R) (C:b=true→R):R:=by cases a with|true=>exact B rfl|false=>exact C h
theorem lT (S:c.aC w W σ ls s.heap):∀(f:Nat) (A:Around) (a b:DV) (v u:Value),A.units+f<cLine→eqT σ f a b=true→aP W.ρ s.heap a v→aP W.ρ s.heap b u→SeqAt.EqAt A s v u true
 |0,_,_,_,_,_,_,h,_,_=>nof h
 |f+1,A,a,b,v,u,hu,h,H,G=>c7 (a:=AR a b) h
  (fun h=>by
   cases a with
   |aj i k=>cases b with
    |aj i' k'=>refine af (a:=Nat.beq i i') h fun B C=>H.bK fun x J=>G.bK fun y hy=>?_;rw [←ie B,←ie C,J] at hy;cases hy;exact .same _
    |_=>exact nof h
   |_=>exact nof h)
  fun h=>(vC S (R2 hu) (fun a b v u h H G=>lT S f A.in1 a b v u (KP hu) h H G) h H G).1
def DC (w:World) (A:Around) (s:Shared) (v u:Value):Prop:=∀(E:zQ) (Q:Bool→Shared→Prop),Q true s→wpAny (M0 w) A (eqBool v u) Q E s
def yz (w:World) (A:Around) (s:Shared) (b:Addr) (es:Array DictEntry) (e:DictEntry):Prop:=∀(E:zQ) (Q:Option Nat→Shared→Prop),(∀j f,es[j]?=some f→DC w A s e.val f.val→Q (some j) s)→wpAny (M0 w) A (dictFind b e.key e.hash) Q E s
theorem wD {nm:String} {a:Addr} {oa:Obj} {P:Array DictEntry} {Iz:Nat} {Q:Bool→Shared→Prop} (U:(a==sysModules)=false) (hb:(b==sysModules)=false) (I:s.heap.get? a=some oa) (Y:oa.data= .dict es ep) (D:s.heap.get? b=some ob) (hdb:ob.data= .dict P Iz) (hsz:es.size=P.size)
  (hit:∀i (h:i<es.size),yz w A s b P es[i]) (h:Q true s):wpAny (M0 w) A (Builtin.Dict.samePairs nm a b) Q E s:=by
 unfold Builtin.Dict.samePairs Builtin.Dict.showsAll;rw [aS (show ¬(a==sysModules)=true by rw [U];exact Bool.false_ne_true),aS (show ¬(b==sysModules)=true by rw [hb];exact Bool.false_ne_true)];refine bP (dY (bP (dY (bP (wpAny_dictEntries I Y (bP (wpAny_dictEntries D hdb ?_)))))));rw [aS (by rw [hsz];simp)];refine bP (wpAny_dictEpoch I Y (bP ?_));rw [Std.Legacy.Range.forIn_eq_forIn_range'];refine wpAny_forIn_list _ (fun rest q s'=>s'=s∧q=(none,())∧∀i∈rest,i<es.size) _ (fun i rest q s' hI=>?_) (fun q s' hI=>?_) _ _ ⟨rfl,rfl,fun i hi=>?_⟩
 ·refine eg hI fun xj iY hr=>?_;subst xj;subst iY
  have hlt:=hr i (.head _);refine bP (wpAny_dictEntries I Y ?_);rw [Array.getElem?_eq_getElem hlt];refine bP (wpAny_holding (bP (hit i hlt _ _ fun j f hj he=>bP (wpAny_dictEntries D hdb ?_))));rw [hj];refine wpAny_holding (he _ _ ?_);show wpAny _ _ (if (!true)=true then _ else _) _ _ _;rw [aS aD];refine bP (wpAny_dictEpoch I Y ?_);rw [aS (by simp)];exact dY ⟨rfl,rfl,fun i hi=>hr i (.tail _ hi)⟩
 ·refine eg hI fun xj iY Z=>?_;subst xj;subst iY
  exact dY h
 ·simp only [Std.Legacy.Range.size,Nat.sub_zero,Nat.add_sub_cancel,Nat.div_one,List.mem_range'_1] at hi
  exact Vz hi hsz
theorem vD:∀{l:zD},kq q m l=true→∀p∈l,∃d,cW m p.1=some d∧q p.2 d=true
 |[],_,_,h=>nomatch h
 |p::l,e,x,J=>by
  have e:(match cW m p.1 with|some d=>(match q p.2 d with|true=>kq q m l|false=>false)|none=>false)=true:=e;cases hd:cW m p.1 with
  |none=>rw [hd] at e;exact nof e
  |some d=>
   cases N:q p.2 d with
   |false=>rw [hd] at e;simp only [N] at e;exact nof e
   |true=>rw [hd] at e;simp only [N] at e;exact (dP J).elim (fun z=>z▸⟨d,hd,N⟩) fun z=>vD e x z
theorem kX {x:DV} {h:Heap} {f:Option Value} (e:cW m x=some d) (g:∃o,aY m x=some o∧Found ρ h o f):∃v,f=some v∧aP ρ h d v:=by refine az g fun o B C=>?_;have e:(match aY m x with|some o=>o|none=>none)=some d:=e;rw [B] at e;have e:o=some d:=e;rw [e] at C;exact C
theorem I0 {c6:List (Str×Value)} (D:s.heap.get? b=some ob) (hd:ob.data= .dict es ep) (hk:KeysOf (strKind pr w) es) (hp:Pairs (strKind pr w) es.toList c6) (K:om ρ s.heap m c6) {e:DictEntry} {st:Str}
  (he:(strKind pr w).is st e.key=true) (hh:e.hash=(strKind pr w).hash st) (hg:cW m (.str st)=some d) (r:∀v,aP ρ s.heap d v→DC w A s e.val v):yz w A s b es e:=fun E Q k=>by
 rw [hh];refine wpAny_dictFind_of he D hd hk<|az (kX hg (qw K)) fun v hv rv=>?_
 have B:findBy (strKind pr w).is es st=some v:=by rw [findBy,←Array.find?_toList];exact (hp.find st).trans hv
 rw [findBy_of_findIdx?] at B;cases hj:es.findIdx? fun e=>(strKind pr w).is st e.key with
 |none=>rw [hj] at B;exact aW B
 |some j=>
  rw [hj] at B;have B:es[j]?.map (·.val)=some v:=B;cases hf:es[j]? with
  |none=>rw [hf] at B;exact aW B
  |some f=>rw [hf] at B;exact k j f hf (show DC w A s e.val f.val from (show f.val=v from bw B)▸r v rv)
theorem IZ {xs:List (ru×Addr×Value)} (hu:A.units+1<cLine) (D:s.heap.get? b=some ob) (hd:ob.data= .dict es ep) (he:es.toList=xs.map (entryOfKey (fG pr w))) (hn:(xs.map (·.1)).Nodup) (K:tF ru.dv RB ρ s.heap m xs) {x:ru×Addr×Value}
  (J:wW s.heap x.1 x.2.1) (hg:cW m x.1.dv=some d) (r:∀v,aP ρ s.heap d v→DC w A s x.2.2 v):yz w A s b es (entryOfKey (fG pr w) x):=fun E Q k=>by
 refine az (kX hg (jS (fun Z Z=>ny) K)) fun v hv rv=>wpAny_dictFind_heap (knd:=fG pr w) hu J D hd he (fE K) hn (fun h=>?_) fun j p hj=>?_
 ·rw [atKey_none_of_get h] at hv;exact aW hv
 ·rw [atKey_of_get hn hj] at hv
  exact k j (entryOfKey (fG pr w) (x.1,p)) (by rw [entry_at he,hj];rfl) (show DC w A s x.2.2 p.2 from (show p.2=v from bw hv)▸r v rv)
theorem xR {es:List DictEntry} {c6:List (Str×Value)} (K:om ρ s.heap l c6):Pairs (strKind pr w) es c6→∀e∈es,∃st d,(DV.str st,d)∈l∧(strKind pr w).is st e.key=true∧aP ρ s.heap d e.val:=by
 induction K generalizing es with
 |nil=>exact fun p e he=>by cases p;exact nomatch he
 | @cons st d v l k r _ ih=>
  intro p e he;cases p with
  |cons B C V=>
   refine (dP he).elim (fun z=>?_) fun z=>?_
   ·subst z;exact xC st d (.head _) B (C▸r)
   ·refine dB (ih V e z) fun st d a b=>?_;exact Fi st d (.tail _ a) b
theorem CH {KK:Type} {dv:KK→DV} {is:Heap→KK→Addr→Prop} {h:Heap} {k:List (KK×Addr×Value)} (x:tF dv is ρ h l k):∀p∈k,∃d,(dv p.1,d)∈l∧is h p.1 p.2.1∧aP ρ h d p.2.2:=by
 induction x with
 |nil=>exact fun Z J=>nomatch J
 |cons a b _ ih=>exact fun p hp=>(dP hp).elim (fun e=>e▸⟨_,.head _,a,b⟩) fun z=>let ⟨d,q,y⟩:=ih p z;⟨d,.tail _ q,y⟩
def BA (w:World) (A:Around) (s:Shared) (op:CmpOp) (v u:Value) (b:Bool):Prop:=∀(E Q:zQ),Q (.bool b) s→wpAny (M0 w) A (richCompare op v u) Q E s
theorem EX {a:Addr} (U:(a==sysModules)=false) (hb:(b==sysModules)=false) (ta:s.TypeIs (.ref a) "dict") (tb:s.TypeIs (.ref b) "dict") (hu:A.units<cLine) (hs:∀(nm:String) (E:zQ) (Q:Bool→Shared→Prop),Q true s→wpAny (M0 w) A.in1 (Builtin.Dict.samePairs nm a b) Q E s):
  BA w A s .Eq (.ref a) (.ref b) true∧BA w A s .NotEq (.ref a) (.ref b) false:=by
 constructor
 ·intro E Q h
  refine wpAny_richCompare_same_room (op:= .Eq) ta tb PySem.F.slot_dict_eq (wpAny_call_entry PySem.F.slot_dict_eq ta PySem.F.entry_dict_eq ?_ (PySem.F.args_dict_eq_2 _ _)) hu;show wpAny _ _ (Builtin.Dict.dictSlotArgs "__eq__" ⟨[.ref a,.ref b],[]⟩>>=_) _ _ s;refine bP ?_;unfold Builtin.Dict.dictSlotArgs;refine bP (wpAny_notOrdered_dict ta (dY (M:=M0 w) (bP (wpAny_isInstance (T:="dict") tb PySem.F.sub_dict_dict ?_))));simp only [Bool.not_true,Bool.false_eq_true,if_false];exact bP (dY (bP (dY (bP (hs _ _ _ (dY ⟨_,rfl,fun x=>(nomatch x),h⟩))))))
 ·intro E Q h
  refine wpAny_richCompare_same_room (op:= .NotEq) ta tb PySem.F.slot_dict_ne (wpAny_call_entry PySem.F.slot_dict_ne ta PySem.F.entry_dict_ne ?_ (PySem.F.args_dict_ne_2 _ _)) hu;show wpAny _ _ (Builtin.Dict.dictSlotArgs "__ne__" ⟨[.ref a,.ref b],[]⟩>>=_) _ _ s;refine bP ?_;unfold Builtin.Dict.dictSlotArgs;refine bP (wpAny_notOrdered_dict ta (dY (M:=M0 w) (bP (wpAny_isInstance (T:="dict") tb PySem.F.sub_dict_dict ?_))));simp only [Bool.not_true,Bool.false_eq_true,if_false];exact bP (dY (bP (dY (bP (hs _ _ _ (dY ⟨_,rfl,fun x=>(nomatch x),h⟩))))))
theorem vn {R:Prop} {y:DV} {kd:KD} {vy:Value} (e:nZ σ kd y=some l) (S:c.aC w W σ ls s.heap) (r:aP W.ρ s.heap y vy) (h:∀a o,s.heap.get? a=some o→(a==sysModules)=false→jf w W.ρ s.heap kd o l→vy= .ref a→R):R:=by
 cases y with
 |aj i k=>
  have e:(match aN σ i k with|some c=>(match c.b with| .dict j4 l=>(match KD.g9 j4 kd with|true=>some l|false=>none)|_=>none)|none=>none)=some l:=e;cases hc:aN σ i k with
  |none=>rw [hc] at e;exact aW e
  |some cl=>
   rw [hc] at e;obtain ⟨cz,b⟩:=cl;cases b with
   |dict j4 m=>
    have e:(match KD.g9 j4 kd with|true=>some m|false=>none)=some l:=e;cases hk:KD.g9 j4 kd with
    |false=>rw [hk] at e;exact aW e
    |true=>rw [hk] at e;revert h;refine r.bK fun a U h=>eg (S.DK hc U) fun B C V=>?_;rw [KD.iF hk,bw e] at V;exact h a _ B C V rfl
   |_=>exact aW e
 |_=>exact aW e
theorem rM (S:c.aC w W σ ls s.heap) {kd:KD} (hkd:kd= .s∨kd= .n) (hu:A.units+2<cLine) (N:∀a b v u,q a b=true→aP W.ρ s.heap a v→aP W.ρ s.heap b u→DC w A.in1 s v u) {a b:DV} {v u:Value} (h:iD σ kd q a b=true) (H:aP W.ρ s.heap a v) (G:aP W.ρ s.heap b u):
  DC w A s v u∧BA w A s .Eq v u true∧BA w A s .NotEq v u false:=by
 have h:(match nZ σ kd a with|some l=>(match nZ σ kd b with|some m=>Nat.beq l.length m.length&&kq q m l|none=>false)|none=>false)=true:=h;cases B:nZ σ kd a with
 |none=>rw [B] at h;exact nof h
 |some l=>
  cases C:nZ σ kd b with
  |none=>rw [B,C] at h;exact nof h
  |some m=>
   rw [B,C] at h;refine af (a:=Nat.beq l.length m.length) h fun X ht=>vn B S H fun a oa I U da ea=>vn C S G fun b ob D hb db eb=>?_;have Z:=vD ht;have X:=ie X;subst ea eb;have hs:∀(nm:String) (E:zQ) (Q:Bool→Shared→Prop),Q true s→wpAny (M0 w) A.in1 (Builtin.Dict.samePairs nm a b) Q E s:=fun nm E Q k=>by
    rcases hkd with rfl|rfl
    ·obtain ⟨c6,⟨es,ep,_,hd,hk,hp,_⟩,K⟩:=da
     obtain ⟨kvs',⟨P,Iz,_,O,hk',RT,_⟩,L⟩:=db;refine wD U hb I hd D O ?_ (fun i hi=>?_) k
     ·have a1:=hp.length;have a2:=RT.length;have a3:=K.length;have a4:=L.length
      rw [Array.length_toList] at a1 a2;exact R3 X a1 a2 a3 a4
     ·refine tY (xR K hp es[i] (Array.mem_toList_iff.mpr (Array.getElem_mem hi))) fun st d hm he rd=>az (hk es[i] (Array.getElem_mem hi)) fun k' hk1 hk2=>az (Z _ hm) fun d' hg M9=>I0 D O hk' RT L he ((strKind pr w).inj _ _ _ hk1 he▸hk2) hg fun v rv=>N _ _ _ _ M9 rd rv
    ·obtain ⟨xs,⟨_,⟨es,ep,hd,he⟩,hn⟩,K⟩:=da
     obtain ⟨xs',⟨_,⟨P,Iz,O,he'⟩,hn'⟩,L⟩:=db;refine wD U hb I hd D O ?_ (fun i hi=>?_) k
     ·have a1:=size_of_entries he;have a2:=size_of_entries he';have a3:=K.length;have a4:=L.length
      exact R3 X a1 a2 a3 a4
     ·have J:=entry_at he i
      rw [Array.getElem?_eq_getElem hi] at J;cases hxi:xs[i]? with
      |none=>rw [hxi] at J;exact aW J.symm
      |some x=>rw [hxi] at J;rw [show es[i]=entryOfKey (fG pr w) x from bw J];refine iZ (CH K x (List.mem_of_getElem? hxi)) fun d hm hxx rd=>az (Z _ hm) fun d' hg M9=>?_;exact IZ (show A.units+1+1<_ by exact VA hu) D O he' hn' L hxx hg fun v rv=>N _ _ _ _ M9 rd rv
   refine aZ (EX U hb ⟨_,I,da.ex.1⟩ ⟨_,D,db.ex.1⟩ (VB hu) hs) fun g1 g2=>eo (fun E Q k=>?_) g1 g2;by_cases e:a=b
   ·subst e;exact SeqAt.EqAt.same _ _ _ _ _ k
   ·unfold eqBool
    refine wpAny_holding<|wpAny_ite_split (fun hab=>absurd (by have:=eq_of_beq hab;injection this) e) (fun Y=>?_)
    exact bP (g1 _ _ (wpAny_truthy_bool k))
end
end
section
variable {b:Bool} {R:Prop} {x y:DV} {G F:Value} {ρ:gJ} {h:Heap}
section
variable {w:World} {c:Cx} {W:Wd} {σ:ah} {ls:Lc} {s:Shared} {Q E:zQ} {n:Nat} {A:Around}
theorem IA {v u:Value} (h:SeqAt.EqAt A s v u true):DC w A s v u:=fun E Q k=>h _ _ _ _ k
theorem u6 {α:Type} [DecidableEq α] [BEq α] [LawfulBEq α] {a b:α}:(a==b)=decide (a=b):=by rw [Bool.eq_iff_iff];simp
theorem jT {o:Option Bool} (h:lI o=some b) (k:∀c,o=some c→b=!c→R):R:=by
 cases o with
 |none=>exact aW h
 |some c=>exact k c rfl (bw h).symm
theorem Cb (o:c.Ok w n) (S:c.aC w W σ ls s.heap) (rx:aP W.ρ s.heap x G) (B:aP W.ρ s.heap y F)
  (h:(match uc σ (eqT σ 8) x y||iD σ .s (fun a b=>eqT σ 8 a b||iD σ .n (eqT σ 8) a b) x y with|true=>some true|false=>none)=some b):b=true∧BA w c.A s .Eq G F true∧BA w c.A s .NotEq G F false:=by
 have hu:=o.hu;cases hb:uc σ (eqT σ 8) x y||iD σ .s (fun a b=>eqT σ 8 a b||iD σ .n (eqT σ 8) a b) x y with
 |false=>rw [hb] at h;exact aW h
 |true=>
  rw [hb] at h;refine ⟨(bw h).symm,c7 hb (fun hb=>?_) fun hb=>?_⟩
  ·refine eg (vC S (A:=c.A) (show c.un<_ by exact Vv hu) (fun a b v u h I H=>lT S 8 _ _ _ _ _ (show c.un+1+8<_ by exact R1 hu) h I H) hb rx B) fun Z J L=>⟨fun E Q k=>J _ _ _ _ k,fun E Q k=>L _ _ _ _ k⟩
  ·exact (rM S (.inl rfl) (A:=c.A) (show c.un+2<_ by exact Vw hu) (fun a b v u h I H=>c7 h (fun h=>IA (lT S 8 _ _ _ _ _ (show c.un+1+8<_ by exact R1 hu) h I H))
    fun h=>(rM S (.inr rfl) (show c.un+1+2<_ by exact Vx hu) (fun a b v u h I H=>IA (lT S 8 _ _ _ _ _ (show c.un+1+1+8<_ by exact Vy hu) h I H)) h I H).1) hb rx B).2
theorem A2 (o:c.Ok w n) (S:c.aC w W σ ls s.heap) (rx:aP W.ρ s.heap x G) (B:aP W.ρ s.heap y F) (h:EZ σ x y=some b):BA w c.A s .Eq G F b∧BA w c.A s .NotEq G F (!b):=by
 have other:(match uc σ (eqT σ 8) x y||iD σ .s (fun a b=>eqT σ 8 a b||iD σ .n (eqT σ 8) a b) x y with|true=>some true|false=>none)=some b→BA w c.A s .Eq G F b∧BA w c.A s .NotEq G F (!b):=fun h=>by refine aZ (Cb o S rx B h) fun K J=>?_;subst K;exact J
 cases x with
 |int i=>cases y with
  |int j=>cases bw (h.symm.trans (congrArg some (bJ.trans u6.symm)));exact rx.aG fun t=>B.aG fun u=>⟨fun E Q k=>SeqAt.RcAt.int_int _ _ _ _ _ _ _ _ k,fun E Q k=>SeqAt.RcNeAt.int_int _ _ _ _ _ _ _ _ k⟩
  |_=>exact aW h
 |str i=>cases y with
  |str j=>cases bw (h.symm.trans (congrArg some (b9.trans u6.symm)));exact rx.bI fun t=>B.bI fun u=>⟨fun E Q k=>SeqAt.RcAt.str_str _ _ _ _ _ _ _ _ k,fun E Q k=>SeqAt.RcNeAt.str_str _ _ _ _ _ _ _ _ k⟩
  |_=>exact aW h
 |_=>exact other h
theorem qx (h:JR x y=some b) (k:∀i j,x= .int i→y= .int j→b=decide (i<j)→R):R:=by
 cases x with
 |int i=>cases y with
  |int j=>exact k i j rfl rfl ((bw h).symm.trans Cp)
  |_=>exact aW h
 |_=>exact aW h
theorem r5 (e:zW x y=some b) (rx:aP ρ h x G) (B:aP ρ h y F) (k1:G= .none→F= .none→b=true→R) (k2:∀a,G= .ref a→F= .none→b=false→R):R:=by
 cases y with
 |none=>
  revert k1 k2;refine B.cG ?_;cases x with
  |none=>exact rx.cG fun k1 k2=>k1 rfl rfl (bw e).symm
  |aj r k=>exact rx.bK fun a Z k1 k2=>k2 a rfl rfl (bw e).symm
  |_=>exact aW e
 |_=>exact aW e
theorem Ay {a b:Option Bool} {c:Bool} (h:Ef a b=some c) (M:a=some c→R) (J:b=some c→R):R:=by
 cases a with
 |none=>exact J h
 |some x=>exact M h
theorem JF {b':Bool} {i j:Int} (D:y= .int i) (C:x= .int j) (e:b'=decide (i<j)) (e':b=!b') (rx:aP ρ h x G) (B:aP ρ h y F) (k0:Q (.bool b) s):wpAny (M0 w) A (compareOp .LtE G F) Q E s:=by subst D C e e';refine rx.aG fun Z=>B.aG fun Z=>P.le_int ?_;rw [←decide_not] at k0;rw [show decide (j≤i)=decide (¬i<j) from decide_eq_decide.mpr Int.not_lt.symm];exact k0
theorem IK {b':Bool} {i j:Int} (D:x= .int i) (C:y= .int j) (e:b'=decide (i<j)) (e':b=!b') (rx:aP ρ h x G) (B:aP ρ h y F) (k0:Q (.bool b) s):wpAny (M0 w) A (compareOp .GtE G F) Q E s:=by subst D C e e';refine rx.aG fun Z=>B.aG fun Z=>P.ge_int ?_;rw [←decide_not] at k0;rw [show decide (i≥j)=decide (¬i<j) from decide_eq_decide.mpr Int.not_lt.symm];exact k0
theorem mh {op:wV} (o:c.Ok w n) (S:c.aC w W σ ls s.heap) (rx:aP W.ρ s.heap x G) (B:aP W.ρ s.heap y F) (h:fy PG σ op x y=some b) (k:∀tk,Q (.bool b) {s with toks:=tk}):
  zw w c (compareOp (SG op) G F) Q E s:=by
 have k0:Q (.bool b) s:=k s.toks;cases op with
 |eq=>exact (A2 o S rx B h).1 _ _ k0
 |ne=>exact jT h fun b' h e=>(A2 o S rx B h).2 _ _ (e▸k0)
 |lt=>exact qx h fun i j D C e=>by subst D C e;exact rx.aG fun Z=>B.aG fun Z=>P.lt_int k0
 |gt=>exact qx h fun i j D C e=>by subst D C e;exact rx.aG fun Z=>B.aG fun Z=>P.gt_int k0
 |le=>exact jT h fun b' h e'=>qx h fun i j D C e=>JF D C e e' rx B k0
 |ge=>exact jT h fun b' h e'=>qx h fun i j D C e=>IK D C e e' rx B k0
 |is=>exact r5 h rx B (fun D C e=>by subst D C e;exact wpAny_is_self rfl k0) fun a D C e=>by subst D C e;exact is_ref_none k0
 |vN=>exact jT h fun b' h e'=>r5 h rx B (fun D C e=>by subst D C e e';exact wpAny_isNot_self rfl k0) fun a D C e=>by subst D C e e';exact isnot_ref_none k0
 |yq=>exact Ay h (fun h=>C4 o h S rx B k0) fun h=>C5 o h S rx B k
 |eU=>exact Ay h (fun h=>jT h fun b' h e=>uJ o h S rx B (e▸k0)) fun h=>A8 o h S rx B k
end
end
theorem ju {x:Nat} {s:Str} {R:Prop} (h:Dv x s=true) (k:x<j5.length→s=nm x→R):R:=by
 have h:(match aL j5 x with|some t=>kL t s|none=>false)=true:=h;cases e:aL j5 x with
 |none=>rw [e] at h;exact nof h
 |some t=>rw [e] at h;have h:kL t s=true:=h;rw [b9] at h;obtain rfl:=dR h;refine k (uh (aH.symm.trans e)) ?_;unfold nm;rw [e];rfl
theorem gy {sc:Scope} {s:Str} {k:NameKind} {R:Prop} (h:nh sc s k=true) (q:sc.names.lookup s=some k→(s==("__debug__" :Str))=false→R):R:=
 af h fun A L=>q (dR A) (by have L:=bu L;rw [b9] at L;exact beq_eq_false_iff_ne.mpr fun e=>absurd e (of_decide_eq_false L))
theorem fJ {sc:Scope} {x:Nat} {s:Str} {R:Prop} (h:gE sc x s=true) (q:x<j5.length→s=nm x→sc.names.lookup (nm x)=some .local→(nm x==("__debug__" :Str))=false→R):R:=
 af h fun A L=>ju A fun a b=>gy L fun c d=>by subst b;exact q a rfl c d
theorem sY {sc:Scope} {x:Nat} {s:Str} {R:Prop} (h:Bh sc x s=true) (q:x<j5.length→s=nm x→sc.names.lookup (nm x)=some .cell→(nm x==("__debug__" :Str))=false→R):R:=
 af h fun A L=>ju A fun a b=>gy L fun c d=>by subst b;exact q a rfl c d
theorem ow {b c:Bool} (h:((b&&c)||(!b&&!c))=true):b=c:=by cases b<;>cases c<;>first|rfl|exact nof h
mutual
theorem wK {K:Frag} {ρ:gJ} {h:Heap} (X:K.In h):∀(d:DV) (v:Value),LH K d v=true→aP ρ h d v
 | .none,v,e=>by cases v with|none=>exact .none|_=>exact nof e
 | .bool b,v,e=>by cases v with|bool c=>exact ow e▸.bool _|_=>exact nof e
 | .int i,v,e=>by cases v with|int j t=>exact dR (bJ.symm.trans e)▸.int _ _|_=>exact nof e
 | .str i,v,e=>by cases v with|str j t=>exact dR (b9.symm.trans e)▸.str _ _|_=>exact nof e
 | .fn a,v,e=>by cases v with|ref j=>exact (show a=j from ie e)▸.fn _|_=>exact nof e
 | .aj _ _,_,e=>nof e
 | .ai l,v,e=>by
  cases v with
  |ref a=>
   have e:(match K.lookup a with|some o=>(match o.cls with| .type t=>t=="tuple" &&(match o.data with| .seq vs _=>Dw K l vs.toList|_=>false)|_=>false)|none=>false)=true:=e;cases ho:K.lookup a with
   |none=>rw [ho] at e;exact nof e
   |some o=>
    rw [ho] at e;obtain ⟨oc,od,Wl,osl⟩:=o;cases oc with
    |type t=>
     refine af (a:=t=="tuple") e fun O e2=>?_;cases Wl with
     |seq vs n=>exact .ai ⟨_,vs,n,X _ _ ho,congrArg Value.type (eq_of_beq O),rfl,rfl⟩ (s6 X l vs.toList e2)
     |_=>exact nof e2
    |_=>exact nof e
  |_=>exact nof e
theorem s6 {K:Frag} {ρ:gJ} {h:Heap} (X:K.In h):∀(l:zL) (vs:zV),Dw K l vs=true→aO ρ h l vs
 |[],[],_=> .nil
 |[],_::_,e=>nof e
 |_::_,[],e=>nof e
 |d::ds,v::vs,e=>af (a:=LH K d v) e fun O e2=> .cons (wK X d v O) (s6 X ds vs e2)
end
theorem pO {o:Expr} {attr:Str} {env:Env} {whole:Sem Value} (h:lW o=false):attributeBase o attr env whole=whole:=by
 cases o with
 |Call f a k p=>cases f with
  |Name i q=>cases a with
   |nil=>cases k with
    |nil=>exact nof h.symm
    |cons=>rfl
   |cons=>rfl
  |_=>rfl
 |_=>rfl
theorem dM {e:Expr} {r:List Expr} {env:Env} (h:isStar e=false):starEach (e::r) env=(false,eval e env)::starEach r env:=by
 cases e with
 |Starred=>exact nof h.symm
 |_=>rfl
theorem GF {slice:Expr} {o i:Value} (h:zX slice=false):subscripted slice false o i=operate [o,i] (getItem o i):=by
 cases slice with
 |Slice=>exact nof h.symm
 |_=>rfl
theorem gb {q:ME→Expr→Bool} {es:List Expr} (h:oh q [] es=true):es=[]:=by
 cases es with
 |nil=>rfl
 |cons _ _=>exact nof h
theorem fH {q:ME→Expr→Bool} {m:ME} {l:List ME} {es:List Expr} {R:Prop} (h:oh q (m::l) es=true) (k:∀e r,es=e::r→q m e=true→oh q l r=true→isStar e=false→R):R:=by
 cases es with
 |nil=>exact nof h
 |cons e r=>exact af (a:=q m e) h fun A L=>af L fun L h3=>k e r rfl A L (bu h3)
section
variable {w:World} {c:Cx} {W:Wd} {σ:ah} {ls:Lc} {s:Shared} {Q E:zQ} {n k:Nat} {q:zT} {z:Bool} {av:Nat} {x:Expr} {rx:Bool→Nat→zT}
theorem ao.now {M:Wd} {D:ah} {J:Heap} {tk₁:Nat} {d:DV} {v:Value} {l':Lc} (p:ao (fk w c W σ ls s Q E) (.ok (.v d) D l')) (S:c.aC w M D ls J) (g:Go W σ s.heap M D J) (r:aP M.ρ J d v):Q v (sh s J tk₁):=p M J tk₁ v S g r
theorem ao.As {d:DV} {v:Value} {l':Lc} (p:ao (fk w c W σ ls s Q E) (.ok (.v d) σ l')) (S:c.aC w W σ ls s.heap) (r:aP W.ρ s.heap d v):Q v s:=p W s.heap s.toks v S .refl r
theorem ao.JV {d:DV} {v:Value} {l':Lc} {tk:Nat} (p:ao (fk w c W σ ls s Q E) (.ok (.v d) σ l')) (S:c.aC w W σ ls s.heap) (r:aP W.ρ s.heap d v):Q v {s with toks:=tk}:=p W s.heap tk v S .refl r
theorem Cx.aC.ns (S:c.aC w W σ ls s.heap):∃m,s.heap.Ns c.ev.locals m∧j8 c W ls s.heap m:=by
 refine bQ S.fr fun m F m' hl hm=>?_;rcases hl.2 with ⟨e,rfl⟩|⟨o,ho,hn⟩
 ·exact cJ _ (e▸F.ns) hm
 ·exact cJ m' (hn.ns (S.nw _ (d9 _ ho)).1) hm
theorem iK {u:Str} {pos:Pos} {d:DV} (o:c.Ok w n) (t:Eo (zk w) c.ev.scope d u=true) (S:c.aC w W σ ls s.heap) (h:∀v,aP W.ρ s.heap d v→Q v s):zw w c (eval (.Name u pos) c.ev) Q E s:=
 af t fun t1 t2=>gy t1 fun t3 U=>by
  cases e:nsIn (zk w) mainGlobals u with
  |none=>rw [e] at t2;exact nof t2
  |some ov=>
   rw [e] at t2;cases ov with
   |none=>exact nof t2
   |some v=>refine az S.fr fun m F Z=>ji o.G.T fun mg mb T=>nameG_K F o.G.X T e (h v (wK (S.D3 o) d v t2)) o.hg o.hk t3 U
theorem uH {u f:Str} {pos:Pos} {v:Value} (o:c.Ok w n) (t:Dt (zk w) c.ev.scope u f=true) (S:c.aC w W σ ls s.heap) (hv:bootBuiltins f=some v) (hn:f≠"__name__") (h:Q v s):zw w c (eval (.Name u pos) c.ev) Q E s:=
 af t fun t0 t=>af t fun t1 t2=>gy t1 fun t3 U=>by
  obtain rfl:=dR (b9.symm.trans t0);cases e:nsIn (zk w) mainGlobals u with
  |none=>rw [e] at t2;exact nof t2
  |some ov=>
   rw [e] at t2;cases ov with
   |some v=>exact nof t2
   |none=>refine az S.fr fun m F Z=>ji o.G.T fun mg mb T=>Name_function_global o.hk t3 (loadGlobal_builtin (env:=c.ev) (by rw [o.hg];exact T.g.keeps F.keep) (mg_none_of o.G.X T.g e) (by rw [o.hb];exact T.b.keeps F.keep) ((T.builtins u hn).trans hv) h) U
theorem KG {y:Nat} (o:c.Ok w n) (t:kP (zk w) (cD (zk w) k) c.ev.scope (.l y) x=true) (S:c.aC w W σ ls s.heap) (p:ao (fk w c W σ ls s Q E) (cC PG z av q rx (.l y) σ ls)):zw w c (eval x c.ev) Q E s:=
 au t fun u hu t=>eT p fun d hd p=>fJ t fun t1 t2 t3 U=>by refine az S.ns fun m hns hm=>iB (hm y d hd) fun Z v hv r=>?_;rw [aU hu,t2];exact wpAny_Name (wpAny_loadName_local o.hk t3 hns (hv.1 t3) (p.As S r)) U
theorem GP {y:Nat} (o:c.Ok w n) (t:kP (zk w) (cD (zk w) k) c.ev.scope (.lc y) x=true) (S:c.aC w W σ ls s.heap) (p:ao (fk w c W σ ls s Q E) (cC PG z av q rx (.lc y) σ ls)):zw w c (eval x c.ev) Q E s:=
 au t fun u hu t=>eT p fun d hd p=>sY t fun t1 t2 t3 U=>by
  cases d with
  |aj i j=>
   refine bq p fun cz b hc p=>?_;cases b with
   |var ov=>
    refine eT p fun d hv p=>az S.ns fun m hns hm=>iB (hm y _ hd) fun Z v I5 r=>az (I5.2 t3) fun a ha xm=>?_;subst xm;obtain ⟨a',O,_,e3,Wm,e4,e5⟩:=S.cells.cell i j _ hc;have O:a=a':=by cases r with|aj r=>exact bw (r.symm.trans O)
    subst O hv;refine az e5 fun v iY r'=>?_;subst iY;rw [aU hu,t2];exact wpAny_Name (wpAny_loadName_cell o.hk t3 ha ⟨_,(S.nw _ (dS _ e3)).1,e4⟩ (p.As S r')) U
   |_=>exact p.elim
  |_=>exact p.elim
theorem Kz {d:DV} (t:kP (zk w) (cD (zk w) k) c.ev.scope (.c d) x=true) (S:c.aC w W σ ls s.heap) (p:ao (fk w c W σ ls s Q E) (cC PG z av q rx (.c d) σ ls)):zw w c (eval x c.ev) Q E s:=
 au t fun u hu t=>by
  rw [gY hu];obtain ⟨cc,i,pos⟩:=u;cases d with
  |none=>cases cc with
   |none=>exact Constant_none (p.As S .none)
   |_=>exact nof t
  |bool b=>cases cc with
   |bool b'=>exact ow t▸Constant_bool (p.As S (.bool _))
   |_=>exact nof t
  |int b=>cases cc with
   |int b'=>exact dR (bJ.symm.trans t)▸wpAny_Constant_int (p.JV S (.int _ _))
   |_=>exact nof t
  |str b=>cases cc with
   |str b'=>exact dR (b9.symm.trans t)▸Constant_str (p.JV S (.str _ _))
   |_=>exact nof t
  |_=>exact nof t
theorem KC {d:DV} (o:c.Ok w n) (t:kP (zk w) (cD (zk w) k) c.ev.scope (.g d) x=true) (S:c.aC w W σ ls s.heap) (p:ao (fk w c W σ ls s Q E) (cC PG z av q rx (.g d) σ ls)):zw w c (eval x c.ev) Q E s:=
 au t fun u hu t=>by rw [aU hu];exact iK o t S fun v r=>p.As S r
variable (H:ic w n q) (o:c.Ok w n) (S:c.aC w W σ ls s.heap)
include H o S
theorem GH {m:ME} {a:Nat} (t:kP (zk w) (cD (zk w) k) c.ev.scope (.bX m a) x=true) (p:ao (fk w c W σ ls s Q E) (cC PG z av q rx (.bX m a) σ ls)):zw w c (eval x c.ev) Q E s:=
 au t fun u hu t=>af t fun t1 t=>af t fun t2 t3=>ju t2 fun Z t2=>by rw [cN hu,t2];refine Attribute_any_ (he:=by show (do let o←attributeBase u.1 (nm a) c.ev (eval u.1 c.ev);standAt u.2.2.atName;let r←holding [o] (getAttr o (nm a) true);letTemporaryGo u.1 o r;pure r)=_;rw [pO (bu t3)]) (H.bv o t1 S p fun d I W1 A bO Y B g1 C p=>?_);exact AW (s:=sh s A bO) o B C p fun dv v' tk r p=>p.now B g1 r
theorem Dd {m i:ME} (t:kP (zk w) (cD (zk w) k) c.ev.scope (.sub m i) x=true) (p:ao (fk w c W σ ls s Q E) (cC PG z av q rx (.sub m i) σ ls)):zw w c (eval x c.ev) Q E s:=
 au t fun u hu t=>af t fun t1 t=>af t fun t2 t3=>by rw [bY hu];refine Subscript_ (H.bv o t1 S p fun d I W1 A bO Y B g1 C p=>?_);refine H.bv (s:=sh s A bO) o t2 B p fun d2 σ2 W2 L N v2 P g2 V p=>tY (sR (s:=sh s L N) (Q:=Q) (E:=E) o P (C.go g2) V p fun dv v' tk r p=>p.now P (g1.trans g2) r) fun T id a1 a2 a3=>tail_any a1 a2 a3 (GF (bu t3))
theorem Fin.of {M:Wd} {D:ah} {J:Heap} {tk₁:Nat} (g:Go W σ s.heap M D J):Fin w c M D ls (sh s J tk₁) (fk w c W σ ls s Q E) (fun v σ=> .ok (.v v) σ ls) Q:=
 fun dv σ' W' h' tk v' S' g' r p=>ao.now (σ:=σ) (s:=s) (W:=W) p S' (g.trans g') r
theorem A9 {m b:ME} (t:kP (zk w) (cD (zk w) k) c.ev.scope (.n_ m b) x=true) (p:ao (fk w c W σ ls s Q E) (cC PG z av q rx (.n_ m b) σ ls)):zw w c (eval x c.ev) Q E s:=
 au t fun u hu t=>au t fun u' I4 t=>au t fun b' hb t=>af t fun t1 t=>af t fun t2 t=>af t fun t3 U=>by have O:=pD I4;rw [By t1,By t2,hb] at O;rw [bY hu,O];refine Subscript_ (H.bv o t3 S p fun d I W1 A bO Y B g1 C p=>wpAny_Slice ?_);rw [evalPart_none,evalPart_some];refine dY (H.bv (s:=sh s A bO) o U B p fun d2 σ2 W2 L N v2 P g2 V p=>dY ?_);exact x9 (s:=sh s L N) P (C.go g2) V p (Fin.of H o S (g1.trans g2))
theorem A_ {m b:ME} (t:kP (zk w) (cD (zk w) k) c.ev.scope (.qT m b) x=true) (p:ao (fk w c W σ ls s Q E) (cC PG z av q rx (.qT m b) σ ls)):zw w c (eval x c.ev) Q E s:=
 au t fun u hu t=>au t fun u' I4 t=>au t fun b' hb t=>af t fun t1 t=>af t fun t2 t=>af t fun t3 U=>by have O:=pD I4;rw [By t1,By t2,hb] at O;rw [bY hu,O];refine Subscript_ (H.bv o t3 S p fun d I W1 A bO Y B g1 C p=>wpAny_Slice ?_);rw [evalPart_some,evalPart_none];refine H.bv (s:=sh s A bO) o U B p fun d2 σ2 W2 L N v2 P g2 V p=>dY (dY ?_);exact x_ (s:=sh s L N) P (C.go g2) V p (Fin.of H o S (g1.trans g2))
theorem CY {op:yl} {a b:ME} (t:kP (zk w) (cD (zk w) k) c.ev.scope (.bin op a b) x=true) (p:ao (fk w c W σ ls s Q E) (cC PG z av q rx (.bin op a b) σ ls)):zw w c (eval x c.ev) Q E s:=
 au t fun u hu t=>af t fun t1 t=>af t fun t2 t3=>by rw [pB hu,dR t1];refine wpAny_BinOp (H.bv o t2 S p fun d I W1 A bO Y B g1 C p=>?_);refine H.bv (s:=sh s A bO) o t3 B p fun d2 σ2 W2 L N v2 P g2 V p=>AX (s:=sh s L N) P (C.go g2) V p (Fin.of H o S (g1.trans g2))
theorem C9 {a:ME} (t:kP (zk w) (cD (zk w) k) c.ev.scope (.neg a) x=true) (p:ao (fk w c W σ ls s Q E) (cC PG z av q rx (.neg a) σ ls)):zw w c (eval x c.ev) Q E s:=
 au t fun u hu t=>af t fun t1 t=>by
  rw [eG hu,dR t1];refine wpAny_UnaryOp (H.bv o t S p fun d I W1 A bO Y B g1 C p=>?_);cases d with
  |int i=>have p:ao (fk w c W σ ls s Q E) (rP z (-i) fun i=> .ok (.v (.int i)) I ls):=p;rw [lU] at p;exact C.aG fun Z=>neg_int (p.now B g1 (.int _ _))
  |_=>exact p.elim
theorem Dc {a:ME} (t:kP (zk w) (cD (zk w) k) c.ev.scope (.not a) x=true) (p:ao (fk w c W σ ls s Q E) (cC PG z av q rx (.not a) σ ls)):zw w c (eval x c.ev) Q E s:=
 au t fun u hu t=>af t fun t1 t=>by
  rw [eG hu,dR t1];refine wpAny_UnaryOp (H.bv o t S p fun d I W1 A bO Y B g1 C p=>?_);refine not_of (snd_true (s:=sh s A bO) B C p fun b tk p=>?_);cases b with
  |true=>exact p.now B g1 (.bool _)
  |false=>exact p.now B g1 (.bool _)
theorem A0 {op:wV} {a b:ME} (t:kP (zk w) (cD (zk w) k) c.ev.scope (.cmp op a b) x=true) (p:ao (fk w c W σ ls s Q E) (cC PG z av q rx (.cmp op a b) σ ls)):zw w c (eval x c.ev) Q E s:=
 au t fun u hu t=>au t fun oo ho t=>au t fun b' hb t=>af t fun t1 t=>af t fun t2 t=>af t fun t3 U=>by have O:=ly hu;rw [cO ho,cO hb,dR t1] at O;rw [dR t1] at U;rw [O];refine wpAny_Compare1 (H.bv o t2 S p fun d I W1 A bO Y B g1 C p=>?_) (bu U);refine H.bv (s:=sh s A bO) o t3 B p fun d2 σ2 W2 L N v2 P g2 V p=>vf p (fun e p=>mh (s:=sh s L N) o P (C.go g2) V e fun tk=>p.now P (g1.trans g2) (.bool _)) fun e p=>mh (s:=sh s L N) o P (C.go g2) V e fun tk=>p.now P (g1.trans g2) (.bool _)
theorem C6 {m a b:ME} (t:kP (zk w) (cD (zk w) k) c.ev.scope (.ite m a b) x=true) (p:ao (fk w c W σ ls s Q E) (cC PG z av q rx (.ite m a b) σ ls)):zw w c (eval x c.ev) Q E s:=
 au t fun u hu t=>af t fun t1 t=>af t fun t2 t3=>by
  rw [yi hu];refine wpAny_IfExp (H.bb o t1 S p fun b' I W1 A bO B g1 p=>?_);cases b' with
  |true=>exact H.e (s:=sh s A bO) o t2 B (fk.then p g1)
  |false=>exact H.e (s:=sh s A bO) o t3 B (fk.then p g1)
theorem snd_and {l:List ME} (hk:cD (zk w) (k+1) c.ev.scope (.and l) x=true) (p:ao (fk w c W σ ls s Q E) (cC PG z av q rx (.and l) σ ls)):zw w c (eval x c.ev) Q E s:=
 au hk fun u hu t=>af t fun t1 t=>by
  rw [gX hu,dR t1];cases l with
  |nil=>exact p.elim
  |cons a l=>
   refine fH t fun e r he t2 t3 X=>?_;rw [he];cases l with
   |nil=>rw [gb t3];exact BoolOp_one (H.e o t2 S p)
   |cons b l=>
    have Z:=t3;refine fH t3 fun e' r' he' X X X=>?_;rw [he'] at Z⊢;refine BoolOp_and (H.bv o t2 S p fun d I W1 A bO Y B g1 C p=>?_);refine snd_true (s:=sh s A bO) B C p fun c' tk p=>?_;cases c' with
    |true=>exact H.e (k:=k+1) (s:=sh s A tk) o (show cD (zk w) (k+1) c.ev.scope (.and (b::l)) (.BoolOp .And (e'::r') u.2.2)=true from Z) B (fk.then p g1)
    |false=>exact p.now B g1 C
theorem GQ {l:List ME} (hk:cD (zk w) (k+1) c.ev.scope (.or l) x=true) (p:ao (fk w c W σ ls s Q E) (cC PG z av q rx (.or l) σ ls)):zw w c (eval x c.ev) Q E s:=
 au hk fun u hu t=>af t fun t1 t=>by
  rw [gX hu,dR t1];cases l with
  |nil=>exact p.elim
  |cons a l=>
   refine fH t fun e r he t2 t3 X=>?_;rw [he];cases l with
   |nil=>rw [gb t3];exact BoolOp_one (H.e o t2 S p)
   |cons b l=>
    have Z:=t3;refine fH t3 fun e' r' he' X X X=>?_;rw [he'] at Z⊢;refine BoolOp_or (H.bv o t2 S p fun d I W1 A bO Y B g1 C p=>?_);refine snd_true (s:=sh s A bO) B C p fun c' tk p=>?_;cases c' with
    |false=>exact H.e (k:=k+1) (s:=sh s A tk) o (show cD (zk w) (k+1) c.ev.scope (.or (b::l)) (.BoolOp .Or (e'::r') u.2.2)=true from Z) B (fk.then p g1)
    |true=>exact p.now B g1 C
theorem De {l:List ME} (t:kP (zk w) (cD (zk w) k) c.ev.scope (.ai l) x=true) (p:ao (fk w c W σ ls s Q E) (cC PG z av q rx (.ai l) σ ls)):zw w c (eval x c.ev) Q E s:=
 au t fun u hu t=>by rw [iV hu];refine wpAny_Tuple (H.g6 o t S p fun d I W1 A bO Y B g1 C p=>bN p fun hs p=>?_);refine eg (sM (s:=sh s A bO) B C) fun P g2 V=>⟨fQ (by rw [C.length];exact fQ hs aD) g_,p.now (tk₁:=bO) P (g1.trans g2) V⟩
theorem C8 {l:List ME} (t:kP (zk w) (cD (zk w) k) c.ev.scope (.lst l) x=true) (p:ao (fk w c W σ ls s Q E) (cC PG z av q rx (.lst l) σ ls)):zw w c (eval x c.ev) Q E s:=
 au t fun u hu t=>by rw [tB hu];refine wpAny_List (H.g6 o t S p fun d I W1 A bO Y B g1 C p=>bN p fun hs p=>?_);exact ⟨fQ (by rw [C.length];exact fQ hs aD) g_,jb (s:=sh s A bO) B C p (Fin.of H o S g1)⟩
end
theorem nE {K:Frag} {q:ME→Expr→Bool} {env:Env} {pos:Pos}:∀{l:List ME} {es:List Expr},oh q l es=true→(backTo pos (starEach es env)).any (·.1)=false
 |[],es,t=>by rw [gb t];rfl
 |m::l,es,t=>fH t fun e r he Z t2 t3=>by rw [he,dM t3];exact (Bool.false_or _).trans (nE (K:=K) t2)
theorem yJ {K:Frag} {q:ME→Expr→Bool} {env:Env} {pos:Pos}:∀{l:List ME} {es:List Expr},oh q l es=true→(backTo pos (starEach es env)).all (fun x=>!x.1)=true
 |[],es,t=>by rw [gb t];rfl
 |m::l,es,t=>fH t fun e r he Z t2 t3=>by rw [he,dM t3];exact (Bool.true_and _).trans (yJ (K:=K) t2)
noncomputable def AF (m:ME):Bool:=match m with
 | .not _=>false
 | .and _=>false
 | .or _=>false
 | .ite _ _ _=>false
 | .bad=>false
 | .cmp _ _ _=>false
 |_=>true
theorem xE {K:Frag} {q:Scope→ME→Expr→Bool} {sc:Scope} {env:Env} {m:ME} {x:Expr} (t:kP K q sc m x=true) (h:AF m=true) (whole:Sem Value):isTrue x env whole=(do let v←whole;standAt x.pos;holding [v] (truthy v)):=by
 cases m with
 |l=>exact au t fun u hu Z=>by rw [aU hu];rfl
 |lc=>exact au t fun u hu Z=>by rw [aU hu];rfl
 |g=>exact au t fun u hu Z=>by rw [aU hu];rfl
 |c=>exact au t fun u hu Z=>by rw [gY hu];rfl
 |bX=>exact au t fun u hu Z=>by rw [cN hu];rfl
 |sub=>exact au t fun u hu Z=>by rw [bY hu];rfl
 |n_=>exact au t fun u hu Z=>by rw [bY hu];rfl
 |qT=>exact au t fun u hu Z=>by rw [bY hu];rfl
 |bin=>exact au t fun u hu Z=>by rw [pB hu];rfl
 |neg=>exact au t fun u hu t=>af t fun t1 Z=>by rw [eG hu,dR t1];rfl
 |ai=>exact au t fun u hu Z=>by rw [iV hu];rfl
 |lst=>exact au t fun u hu Z=>by rw [tB hu];rfl
 |dct=>exact au t fun u hu Z=>by rw [s_ hu];rfl
 |comp=>exact au t fun u hu Z=>by rw [fj hu];rfl
 |not=>exact nof h
 |and=>exact nof h
 |or=>exact nof h
 |ite=>exact nof h
 |bad=>exact nof h
 |cmp=>exact nof h
 |_=>exact au t fun u hu Z=>by rw [cR hu];rfl
theorem boot_len:bootBuiltins (Str.ofString "len")=some (.builtin "len"):=by boot_by_name
theorem boot_tuple:bootBuiltins (Str.ofString "tuple")=some (.type "tuple"):=by boot_by_name
theorem boot_range:bootBuiltins (Str.ofString "range")=some (.type "range"):=by boot_by_name
section
variable {w:World} {c:Cx} {W:Wd} {σ:ah} {ls:Lc} {s:Shared} {Q E:zQ} {n k:Nat} {q:zT} {z:Bool} {av:Nat} {x:Expr} {rx:Bool→Nat→zT} {i:zP}
variable (H:ic w n q) (o:c.Ok w n) (S:c.aC w W σ ls s.heap)
include H o S
theorem GK {Q:List Value→Shared→Prop} {m:List ME} {x:List Expr} {pos:Pos} (t:oh (cD (zk w) k c.ev.scope) m x=true) (p:ao (HT w c W σ ls s Q) (step PG z av q rx (.es m) σ ls)):zw w c (spliced (backTo pos (starEach x c.ev))) Q E s:=by
 cases m with
 |nil=>rw [gb t];exact wpAny_items_nil (p W s.heap s.toks [] S .refl .nil)
 |cons e l=>refine fH t fun y r he t1 t2 t3=>?_;rw [he];refine wpAny_items_cons (H.bv o t1 S p fun d C W1 B bO N A g1 F p=>?_) (dM t3);exact H.g6 (s:=sh s B bO) o t2 A p fun d2 T U O J V P g2 R p=>p U O J (N::V) P (g1.trans g2) (.cons (F.go g2) R)
theorem GO {Q:List (Value×Value)→Shared→Prop} {m:List (ME×ME)} {ks:List (Option Expr)} {vs:List Expr} {pos:Pos} (t:wJ (cD (zk w) k c.ev.scope) m ks vs=true) (p:ao (HQ w c W σ ls s Q) (step PG z av q rx (.kv m) σ ls)):zw w c (evalPairs (pairTrees ks vs c.ev pos)) Q E s:=by
 cases m with
 |nil=>cases ks with
  |nil=>cases vs with
   |nil=>exact pairTrees_nil_walk (p W s.heap s.toks [] S .refl .nil)
   |cons _ _=>exact nof t
  |cons _ _=>exact nof t
 |cons e l=>cases ks with
  |nil=>exact nof t
  |cons ko ks=>cases ko with
   |none=>exact nof t
   |some ke=>cases vs with
    |nil=>exact nof t
    |cons ve vs=>refine af (b:=cD (zk w) k c.ev.scope e.2 ve&&wJ (cD (zk w) k c.ev.scope) l ks vs) t fun t1 t=>af t fun t2 t3=>pairTrees_cons_walk (H.bv o t1 S p fun d C W1 B bO N A g1 F p=>m9 p fun Z p=>?_);refine H.bv (s:=sh s B bO) o t2 A p fun d2 T U O J V P g2 R p=>H.BP (s:=sh s O J) o t3 P p fun d3 σ3 W3 h3 Y v3 S3 g3 r3 p=>p W3 h3 Y _ S3 (g1.trans (g2.trans g3)) (.cons (F.go (g2.trans g3)) (R.go g3) r3)
theorem Ky {Q:Bool→Shared→Prop} {m:ME} (hk:cD (zk w) (k+1) c.ev.scope m x=true) (p:ao (BJ w c W σ ls s Q) (step PG z av q rx (.b m) σ ls)):zw w c (isTrue x c.ev (eval x c.ev)) Q E s:=by
 have plain:AF m=true→ao (BJ w c W σ ls s Q) (bv (q (.e m) σ ls) fun d σ=>iL z σ d (.ok (.b true) σ ls) (.ok (.b false) σ ls))→zw w c (isTrue x c.ev (eval x c.ev)) Q E s:=fun h p=>by
  refine isTrue_plain (H.bv o hk S p fun d C W1 B bO N A g1 F p=>?_) (xE hk h _);refine snd_true (s:=sh s B bO) A F p fun b tk p=>?_;cases b with
  |true=>exact p W1 B tk A g1
  |false=>exact p W1 B tk A g1
 cases m with
 |not m=>
  refine au hk fun u hu t=>af t fun t1 t=>?_;rw [eG hu,dR t1];refine isTrue_not (H.bb o t S p fun b C W1 B bO A g1 p=>?_);cases b with
  |true=>exact p W1 B bO A g1
  |false=>exact p W1 B bO A g1
 |and l=>
  refine au hk fun u hu t=>af t fun t1 t=>?_;rw [gX hu,dR t1];cases l with
  |nil=>rw [gb t];exact isTrue_and_nil (p W s.heap s.toks S .refl)
  |cons a l=>
   refine fH t fun e r he t2 t3 Z=>?_;rw [he];refine isTrue_and (H.bb o t2 S p fun b C W1 B bO A g1 p=>?_);cases b with
   |true=>exact H.b (k:=k+1) (s:=sh s B bO) o (show cD (zk w) (k+1) c.ev.scope (.and l) (.BoolOp .And r u.2.2)=true from t3) A (BJ.then p g1)
   |false=>exact p W1 B bO A g1
 |or l=>
  refine au hk fun u hu t=>af t fun t1 t=>?_;rw [gX hu,dR t1];cases l with
  |nil=>rw [gb t];exact isTrue_or_nil (p W s.heap s.toks S .refl)
  |cons a l=>
   refine fH t fun e r he t2 t3 Z=>?_;rw [he];refine isTrue_or (H.bb o t2 S p fun b C W1 B bO A g1 p=>?_);cases b with
   |false=>exact H.b (k:=k+1) (s:=sh s B bO) o (show cD (zk w) (k+1) c.ev.scope (.or l) (.BoolOp .Or r u.2.2)=true from t3) A (BJ.then p g1)
   |true=>exact p W1 B bO A g1
 |ite _ _ _=>exact p.elim
 |bad=>exact p.elim
 |cmp op a b=>refine au hk fun u hu t=>au t fun oo ho t=>au t fun b' hb t=>af t fun t1 t=>af t fun t2 t=>af t fun t3 j=>?_;have e1:=ly hu;rw [cO ho,cO hb,dR t1] at e1;rw [dR t1] at j;rw [e1];refine wpAny_isTrue_Compare1 (H.bv o t2 S p fun d C W1 B bO N A g1 F p=>?_) (bu j);refine H.bv (s:=sh s B bO) o t3 A p fun d2 T U O J V P g2 R p=>vf p (fun e p=>mh (s:=sh s O J) o P (F.go g2) R e fun tk=>wpAny_truthy_bool (p U O tk P (g1.trans g2))) fun e p=>mh (s:=sh s O J) o P (F.go g2) R e fun tk=>wpAny_truthy_bool (p U O tk P (g1.trans g2))
 |_=>exact plain rfl p
theorem dI {f:Value} {first:zV} {as:List ME} {es:List Expr} {pos:Pos} {r:List DV→ah→RR} (t:oh (cD (zk w) k c.ev.scope) as es=true) (hk:keepIn (zk w) f=true) (p:ao i (g6 (q (.es as) σ ls) r))
  (h:∀d D L I tk₁ M,c.aC w L D ls I→Go W σ s.heap L D I→aO L.ρ I d M→ao i (r d D)→zw w c (call f (first++M)) Q E (sh s I tk₁)):zw w c (callWith pos f first (backTo pos (starEach es c.ev)) []) Q E s:=by
 cases as with
 |nil=>rw [gb t];exact callWith_K0 (S.D3 o) hk (h [] σ W s.heap s.toks [] S .refl .nil (H.IB p.bind))
 |cons a l=>have t':=t;refine fH t fun e r he Z t2 t3=>?_;rw [he] at t'⊢;exact callWith_K o.G.X hk (H.g6 o t' S p fun d C W1 B bO N A g1 F p=>⟨A.D3 (s:=sh s B bO) o,h d C W1 B bO N A g1 F p⟩) (dM t3) (nE (K:=K w.params) t2)
theorem C7 {m:ME} (t:kP (zk w) (cD (zk w) k) c.ev.scope (.len m) x=true) (p:ao (fk w c W σ ls s Q E) (cC PG z av q rx (.len m) σ ls)):zw w c (eval x c.ev) Q E s:=
 au t fun u hu t=>af t fun t0 t=>au t fun f hf t=>au t fun a Z t=>af t fun t1 t=>af t fun t2 t3=>by have e:=cR hu;rw [aU hf,cO Z,bg t0] at e;rw [e];refine Call_Name rfl (uH o t1 S boot_len aD ?_);refine callWith_method1 (first:=[]) (wpAny_items_cons (H.bv o t2 S p fun d C W1 B bO N A g1 F p=>wpAny_items_nil ?_) (dM (bu t3))) (dM (bu t3));exact A5 (s:=sh s B bO) A F p fun dv v' tk r p=>p.now A g1 r
theorem uM {m:ME} (t:kP (zk w) (cD (zk w) k) c.ev.scope (.tupleOf m) x=true) (p:ao (fk w c W σ ls s Q E) (cC PG z av q rx (.tupleOf m) σ ls)):zw w c (eval x c.ev) Q E s:=
 au t fun u hu t=>af t fun t0 t=>au t fun f hf t=>au t fun a Z t=>af t fun t1 t=>af t fun t2 t3=>by have e:=cR hu;rw [aU hf,cO Z,bg t0] at e;rw [e];refine Call_Name rfl (uH o t1 S boot_tuple aD ?_);refine callWith_type1 (wpAny_items_cons (H.bv o t2 S p fun d C W1 B bO N A g1 F p=>wpAny_items_nil ?_) (dM (bu t3))) (dM (bu t3));exact sU (s:=sh s B bO) A F p fun l W' h' tk v' S' g' r p=>p.now S' (g1.trans g') r
end
section
variable {f C:Addr} {ra:RA} {as:List ME}
noncomputable def uu (o:Option (Option Value)) (f:Addr):Bool:=bM o fun o=>bM o fun v=>match v with
 | .ref g=>Nat.beq g f
 |_=>false
theorem oR {o:Option (Option Value)} (h:uu o f=true):o=some (some (.ref f)):=
 au h fun o e h=>au h fun v e' h=>by
  cases v with
  |ref g=>rw [e,e',ie h]
  |_=>exact nof h
noncomputable def newOk (K:Frag) (C f:Addr):Bool:=makesIn K C&&(uu (findIn K (.ref C) "__init__") f&&isFn K (.ref f))
theorem F6 (w:World):(PG.init.all fun p=>newOk (zk w) p.1 p.2)=true:=by kernel_rfl
noncomputable def FU (K:Frag) (C f:Addr) (name:Str):Bool:=plainGet K C name&&(uu (findIn K (.ref C) name) f&&(isFn K (.ref f)&&keepIn K (.ref f)))
theorem CL (w:World):(PG.eL.all fun p=>p.2.all fun q=>FU (zk w) p.1 q.2 (nm q.1))=true:=by kernel_rfl
theorem xP (w:World) (h:aF PG.init C=some f):makesIn (zk w) C=true∧findIn (zk w) (.ref C) "__init__" =some (some (.ref f))∧isFn (zk w) (.ref f)=true:=
 af (gh (F6 w) _ (er h)) fun a1 h=>af h fun a2 a3=>⟨a1,oR a2,a3⟩
theorem uB (w:World) {m:Nat} {t:List (Nat×Nat)} (h:aF PG.eL C=some t) (M:aF t m=some f):plainGet (zk w) C (nm m)=true∧findIn (zk w) (.ref C) (nm m)=some (some (.ref f))∧isFn (zk w) (.ref f)=true∧keepIn (zk w) (.ref f)=true:=
 af (gh (gh (CL w) _ (er h)) _ (er M)) fun a1 h=>af h fun a2 h=>af h fun a3 a4=>⟨a1,oR a2,a3,a4⟩
theorem rj.none {ρ:gJ} {h:Heap} {C m:Nat} (hm:m<j5.length) (hn:wc PG C m=false) {as:List (Nat×DV)} {l:List (Str×Value)} (r:rj ρ h as l):(as.all fun p=>wc PG C p.1)=true→nX (nm m) l=Option.none:=by
 induction r with
 |nil=>exact fun Z=>rfl
 | @cons x d v as l hx hr _ ih=>intro ha;refine af (a:=wc PG C x) ha fun I h2=>(ou (beq_eq_false_iff_ne.mpr fun e=>?_)).trans (ih h2);rw [gW hx hm e,hn] at I;exact nof I
section
variable {w:World} {c:Cx} {W:Wd} {σ:ah} {ls:Lc} {s:Shared} {Q E:zQ} {n k:Nat} {q:zT} {z:Bool} {av:Nat} {x:Expr} {rx:Bool→Nat→zT} {Φ:zP} {h:Heap}
theorem AK {R:Prop} {kk:Nat→ah→RR} (S:c.aC w W σ ls h) (p:ao Φ (yt z av ra σ ls kk)) (hk:∀r P,c.aC w W P ls h→Go W σ h W P h→ao Φ (kk r P)→R):R:=by
 cases ra with
 |av=>exact hk _ _ S .refl p
 |bX r=>exact hk _ _ S .refl p
 |sel x=>
  have p:ao Φ (match aF ls x with|some d=>(match d with| .aj r i=>dU z σ r i fun c=>(match c.b with| .list l=>pU z (some (Nat.blt l.length 4)) (kk 3 σ) (kk 2 σ)|_=> .no)|_=> .no)|none=> .no):=p;cases e:aF ls x with
  |none=>rw [e] at p;exact p.elim
  |some d=>
   rw [e] at p;cases d with
   |aj r i=>
    refine bq p fun cz b Z p=>?_;cases b with
    |list l=>exact eH p (fun Z p=>hk _ _ S .refl p) fun Z p=>hk _ _ S .refl p
    |_=>exact p.elim
   |_=>exact p.elim
variable (H:ic w n q) (o:c.Ok w n) (S:c.aC w W σ ls s.heap)
include H o S
theorem AZ (Hx:∀z R,yG w n (rx z R)) {z':Option Bool} (t:kP (zk w) (cD (zk w) k) c.ev.scope (.call z' ra f as) x=true) (p:ao (fk w c W σ ls s Q E) (cC PG z av q rx (.call z' ra f as) σ ls)):zw w c (eval x c.ev) Q E s:=
 au t fun u hu t=>af t fun t0 t=>au t fun f' hf t=>af t fun t1 t=>af t fun t2 t3=>by
  have e:=cR hu;rw [aU hf,bg t0] at e;rw [e];refine Call_Name rfl (iK o t1 S fun v r=>?_);refine r.jK (dI H o S t2 t3 p fun d O W1 I bO v1 J g1 U p=>?_);refine AK J p fun R σ2 S2 g2 p=>wpAny_call ((Hx _ R).call (s:=sh s I bO) o S2 U (p.bind.mono fun rs P Z z=>?_));cases rs with
  |v d=>exact fun V M tk v S' g rv=>ao.now (σ:=σ) (s:=s) (W:=W) z S' (g1.trans (g2.trans g)) rv
  |y=>exact fun V M tk v e' r=>z V M tk v ((g1.trans g2).e.trans e') (r.pre (g1.trans g2).t)
  |_=>exact z.elim
theorem xZ (Hx:∀z R,yG w n (rx z R)) {z':Option Bool} (t:kP (zk w) (cD (zk w) k) c.ev.scope (.kU z' ra f as) x=true) (p:ao (fk w c W σ ls s Q E) (cC PG z av q rx (.kU z' ra f as) σ ls)):zw w c (eval x c.ev) Q E s:=
 au t fun u hu t=>af t fun tt t=>af t fun t0 t=>au t fun f' hf t=>af t fun t1 t=>af t fun t2 t3=>by
  have e:=cR hu;rw [aU hf,bg t0] at e;rw [e];refine Call_Name rfl (iK o t1 S fun v r=>?_);refine r.jK (dI H o S t2 t3 p fun d O W1 I bO v1 J g1 U p=>?_);refine AK J p fun R σ2 S2 g2 p=>wpAny_call ((Hx _ R).call (s:=sh s I bO) o S2 U (p.bind.mono fun rs P Z z=>?_));cases rs with
  |v d=>exact fun V M tk v S' g rv=>ao.now (σ:=σ) (s:=s) (W:=W) z S' (g1.trans (g2.trans g)) rv
  |z d=>exact fun V M tk v S' g rv=>ao.now (σ:=σ) (s:=s) (W:=W) z (S' (o.tp tt)) (g1.trans (g2.trans g)) rv
  |_=>exact z.elim
theorem A3 {ds:zL} {vs:zV} {l₀:Lc} {r:DV→ah→RR} {R:Result→Shared→Prop} (rs:aO W.ρ s.heap ds vs) (p:ao Φ (bv (q (.call f ds) σ l₀) r))
  (h:∀d B T N tk₁ v₁,c.aC w T B ls N→Go W σ s.heap T B N→aP T.ρ N d v₁→ao Φ (r d B)→R (.ok (.ret v₁)) (sh s N tk₁)):codeAny (M0 w) c.A (.call (.ref f) ⟨vs,[]⟩) R s:=
 H.call o S rs (p.bind.mono fun rs B Z z=>by
  cases rs with
  |v d=>exact fun V M tk v S' g rv=>h d B V M tk v S' g rv z
  |_=>exact z.elim)
theorem oY {es:List Expr} {qp:Pos} {l:List ME} (t:oh (cD (zk w) k c.ev.scope) l es=true) (h:Nat.blt es.length 20=true):methodCallForm (es.length+([]:List Keyword).length) (backTo qp (starEach es c.ev)) (backToKw qp (keywordEach [] c.ev))=true:=by unfold methodCallForm;rw [yJ (K:=K w.params) t];have h:=dD h;show (true&&true&&decide (es.length+0+0<30))=true;rw [gH (show es.length+0+0<30 by exact VC h)];rfl
theorem A7 {m:ME} {i:Nat} (t:kP (zk w) (cD (zk w) k) c.ev.scope (.eL m i as) x=true) (p:ao (fk w c W σ ls s Q E) (cC PG z av q rx (.eL m i as) σ ls)):zw w c (eval x c.ev) Q E s:=
 au t fun u hu t=>af t fun t0 t=>au t fun a ha t=>af t fun t1 t=>af t fun t2 t=>af t fun t3 t=>af t fun t4 t=>af t fun t5 t6=>ju t2 fun hi t2=>by
  have e:=cR hu;rw [cN ha,bg t0,t2] at e;rw [e,arm_eval_Call,pO (bu t4)];refine bP (H.bv o t1 S p fun d O W1 I bO v1 J g1 U p=>?_);refine bP (wpAny_standAt ?_);unfold methodCall;rw [oY H o S t3 t6];cases d with
  |aj r j=>
   refine bq (r:=r) (k:=j) p fun cz b hc p=>?_;cases b with
   |inst C as'=>refine m9 p fun hno p=>eT p fun tt g p=>eT p fun f g' p=>zf (uB w g g') fun f1 f2 f3 f4=>?_;revert J g1;refine U.bK fun a' ha' J g1=>?_;obtain ⟨em,_,UO,_,hoa,l,D,hA⟩:=J.LR (s:=sh s I bO) hc ha';refine az J.fr fun mm F Z=>bP (wpAny_holding (FW (s:=sh s I bO) F o.G.X J.nw (dS _ em) (dS _ UO) (D.no (hA.none hi (bu hno) hoa)) f1 f2 f3 ?_));refine bP (wpAny_of_eq (show methodCallPos true a.1 c.ev a.2.2 u.2.2.2=pure u.2.2.2 by unfold methodCallPos;simp [ie t5]) ?_);refine dI (s:=sh s I bO) H o J t3 f4 p fun d2 σ2 W2 h2 yu v2 S2 g2 r2 p=>wpAny_call (A3 (s:=sh s h2 yu) H o S2 (.cons (.aj (g2.e.le _ _ _ ha')) r2) p fun d3 σ3 W3 h3 Be v3 S3 g3 r3 p=>ao.now (σ:=σ) (s:=s) (W:=W) p S3 (g1.trans (g2.trans g3)) r3)
   |_=>exact p.elim
  |_=>exact p.elim
theorem GI {m:ME} {i:BM} (t:kP (zk w) (cD (zk w) k) c.ev.scope (.bm m i as) x=true) (p:ao (fk w c W σ ls s Q E) (cC PG z av q rx (.bm m i as) σ ls)):zw w c (eval x c.ev) Q E s:=
 au t fun u hu t=>af t fun t0 t=>au t fun a ha t=>af t fun t1 t=>af t fun t2 t=>af t fun t3 t=>af t fun t4 t=>af t fun t5 t6=>ju t2 fun hi t2=>by
  have e:=cR hu;rw [cN ha,bg t0,t2] at e;rw [e,arm_eval_Call,pO (bu t4)];refine bP (H.bv o t1 S p fun d O W1 I bO v1 J g1 U p=>?_);refine bP (wpAny_standAt ?_);unfold methodCall;rw [oY H o S t3 t6];refine bP (wpAny_holding (xY (s:=sh s I bO) o J U p fun p=>?_));refine bP (wpAny_of_eq (show methodCallPos true a.1 c.ev a.2.2 u.2.2.2=pure u.2.2.2 by unfold methodCallPos;simp [ie t5]) ?_);cases as with
  |nil=>have p2:ao (fk w c W σ ls s Q E) (LU PG z av O d i [] fun v σ=> .ok (.v v) σ ls):=H.IB p.bind;exact p2.elim
  |cons a' l=>have t3':=t3;refine fH t3 fun e r he Z tr ts=>?_;rw [he] at t3'⊢;refine callWith_method1 (first:=[v1]) (H.g6 (s:=sh s I bO) o t3' J p fun d2 σ2 W2 h2 yu v2 S2 g2 r2 p=>?_) (dM ts) (nE (K:=K w.params) tr);exact CZ (s:=sh s h2 yu) o S2 (U.go g2) r2 p (Fin.of H o S (g1.trans g2))
theorem pA {vs:zV}:c.A.under (.builtin "type.__call__" ⟨.ref C::vs,[]⟩)=({c with dp:=c.dp+1,un:=c.un+1}:Cx).A:=by
 have I:(Code.builtin "type.__call__" ⟨.ref C::vs,[]⟩).weight=1:=by kernel_rfl
 have h2:(Code.builtin "type.__call__" ⟨.ref C::vs,[]⟩).cUnits=1:=by kernel_rfl
 have h3:(Code.builtin "type.__call__" ⟨.ref C::vs,[]⟩).envs=[]:=by kernel_rfl
 have h4:(Code.builtin "type.__call__" ⟨.ref C::vs,[]⟩).guards=[]:=by kernel_rfl
 unfold Around.under;rw [I,h2,h3,h4];have h5:∀x:Option (List Env),pushEnvs [] x=x:=fun x=>by cases x<;>rfl
 have h6:∀x:Option (List Code),pushGuards [] x=x:=fun x=>by cases x<;>rfl
 rw [h5,h6]
end
section
variable {w:World} {c:Cx} {W:Wd} {σ:ah} {ls:Lc} {s:Shared} {Q E:zQ} {n k:Nat} {q:zT} {z:Bool} {av:Nat} {x:Expr} {rx:Bool→Nat→zT} {Φ:zP} {h:Heap}
theorem Cx.Ok.up (o:c.Ok w (n+1)):({c with dp:=c.dp+1,un:=c.un+1}:Cx).Ok w n:=⟨o.G,o.hk,o.hg,o.hb,by have:=o.hd;show c.dp+1+n<_;exact R5 this,by have:=o.hu;show c.un+1+10*n+300<_;exact VD this,o.tp⟩
theorem Cx.aC.Q4 (S:c.aC w W σ ls h) {g:Rg} {a dx:Addr} {M:Heap} (hn:σ[av]?=some g) (f:c.Goes h M) (N':News c.g c.L M ((a,instObj C dx)::(dx,dictOf [] 0)::rB c W h)) (hlt:∀p∈rB c W h,p.1<dx) (Z:dx<a):
  ∃V,c.aC w V (ez z σ av (.inst C [])) ls M∧Go W σ h V (ez z σ av (.inst C [])) M∧V.ρ av g.n=some a:=by
 refine az S.fr fun m F u=>?_;have t:=jZ F (f m F) fun p Y=>N' p (.tail _ (.tail _ (d9 _ Y)));refine ⟨_,S.alloc (o:=instObj C dx) (d:=dx) (od:=dictOf [] 0) (more:=[(dx,dictOf [] 0)]) hn f (fun p Y=>N' p ?_) (fun p Y=>?_) t ⟨fun q=>(nomatch (show Value.ref C= .type "tuple" from q.1)),fun q hq=>?_⟩ fun le e=>?_⟩
 ·rcases dP Y with rfl|Y
  ·exact .head _
  ·rcases dP Y with rfl|Y
   ·exact .tail _ (.head _)
   ·exact .tail _ (.tail _ (dS _ Y))
 ·have:=hlt p (dS _ Y)
  refine ⟨lM (Nat.lt_trans this Z),fun q hq=>?_⟩;cases nW hq;exact lM this
 ·cases nW hq
  exact fun q=>absurd (show Value.type "dict" = .type "tuple" from q.1) aD
 ·refine eg (e _ _ ⟨rfl,rfl⟩) fun e1 e2 e3=>?_
  refine ⟨by rw [e1,e2],by rw [e2,e3];exact .tail _ (.head _),?_,rfl,[],by rw [e3];exact rq.nil,.nil⟩;rw [e2];exact (aS (lM Z)).trans (bk ⟨_,.head _,rfl⟩)
theorem Cx.aC.cx (S:c.aC w W σ ls h) {dp un:Nat}:({c with dp:=dp,un:=un}:Cx).aC w W σ ls h:=⟨S.fr,S.nw,S.jl,S.cells⟩
variable (H:ic w n q) (o:c.Ok w (n+1)) (S:c.aC w W σ ls s.heap)
include H o S
theorem C_ (t:kP (zk w) (cD (zk w) k) c.ev.scope (.new C as) x=true) (p:ao (fk w c W σ ls s Q E) (cC PG z av q rx (.new C as) σ ls)):zw w c (eval x c.ev) Q E s:=
 au t fun u hu t=>af t fun t0 t=>au t fun f' hf t=>af t fun t1 t=>af t fun t2 t3=>by
  have e:=cR hu;rw [aU hf,bg t0] at e;rw [e];refine Call_Name rfl (iK o.down t1 S fun v r=>?_);refine r.jK (dI H o.down S t2 t3 p fun d O W1 I bO v1 J g1 U p=>eT p fun f hf p=>gV p fun g hg p=>?_);refine eg (xP w hf) fun f1 f2 f3=>az J.fr fun mm F M3=>call_cls (s:=sh s I bO) F o.G.X (nv J F) f1 f2 f3 (fun a dx M F' N' hlt Z=>?_);obtain ⟨W2,S2,g2,e2⟩:=J.Q4 hg (iP F F') N' hlt Z;rw [List.nil_append,pA H o.down S];refine A3 (c:={c with dp:=c.dp+1,un:=c.un+1}) (s:=sh s M bO) H o.up S2.cx (.cons (.aj e2) (U.go g2)) p fun d3 σ3 W3 h3 Be v3 S3 g3 r3 p=>?_;cases d3 with
  |none=>exact r3.cG ⟨rfl,ao.now (σ:=σ) (s:=s) (W:=W) p S3.cx (g1.trans (g2.trans g3)) (.aj (g3.e.le _ _ _ e2))⟩
  |_=>exact p.elim
end
end
theorem mC {q:ME→Expr→Bool}:∀{l:List (ME×ME)} {ks:List (Option Expr)} {vs:List Expr},wJ q l ks vs=true→ks.all (·.isSome)=true∧ks.length=l.length∧vs.length=l.length
 |[],ks,vs,t=>by
  cases ks with
  |nil=>cases vs with
   |nil=>exact eo rfl rfl rfl
   |cons _ _=>exact nof t
  |cons _ _=>exact nof t
 |p::l,ks,vs,t=>by
  cases ks with
  |nil=>exact nof t
  |cons k ks=>cases k with
   |none=>exact nof t
   |some k=>cases vs with
    |nil=>exact nof t
    |cons v vs=>refine af (a:=q p.1 k) t fun Z t=>af t fun Z t=>eg (mC t) fun h1 i d=>eo ((Bool.true_and _).trans h1) (congrArg (·+1) i) (congrArg (·+1) d)
theorem Bj {q:ME→Expr→Bool} {pos:Pos} {env:Env} (j:Nat):∀{l:List (ME×ME)} {ks:List (Option Expr)} {vs:List Expr},wJ q l ks vs=true→∃O M U P,wJ q (l.take j) O M=true∧wJ q (l.drop j) U P=true∧pairTrees ks vs env pos=pairTrees O M env pos++pairTrees U P env pos:=by
 induction j with
 |zero=>exact fun t=>⟨[],[],_,_,rfl,t,rfl⟩
 |succ j ih=>
  intro l ks vs t;cases l with
  |nil=>exact ⟨[],[],_,_,rfl,t,rfl⟩
  |cons p l=>
   cases ks with
   |nil=>exact nof t
   |cons k ks=>cases k with
    |none=>exact nof t
    |some k=>cases vs with
     |nil=>exact nof t
     |cons v vs=>
      refine af (a:=q p.1 k) t fun t1 t=>af t fun t2 t=>?_;obtain ⟨O,M,U,P,h1,i,d⟩:=ih t;refine ⟨some k::O,v::M,U,P,?_,i,?_⟩
      ·show (q p.1 k&&(q p.2 v&&wJ q (l.take j) O M))=true
       rw [t1,t2,h1];rfl
      ·exact congrArg (List.cons _) d
theorem yb {v:Value} {s:Str} {k:List (Str×Value)} (C:(k.map (·.1)).Nodup):((stored k s v).map (·.1)).Nodup:=by
 unfold stored;by_cases h:(k.any fun kv=>kv.1=s)=true
 ·rw [bk h,keys_map_store];exact C
 ·rw [aS h,List.map_append,List.nodup_append]
  refine eo C (by simp) (fun a ha b hb e=>h ?_);refine az (List.mem_map.mp ha) fun p A xm=>?_;subst xm;cases nW hb;exact List.any_eq_true.mpr ⟨p,A,gH e⟩
section
variable {w:World} {c:Cx} {W:Wd} {σ:ah} {ls:Lc} {s:Shared} {Q E:zQ} {n k:Nat} {q:zT} {z:Bool} {av:Nat} {x:Expr} {rx:Bool→Nat→zT} {Φ:zP} {h:Heap} {ρ:gJ}
theorem fU {R:Prop} {l:zD} {kk:List (DV×DV)→RR}:∀{acc:zD} {B:List (Str×Value)} {vs:List (Value×Value)},ao Φ (ef z acc l kk)→iy ρ h l vs→om ρ h acc B→(B.map (·.1)).Nodup→
  (∀I c6,Carries (strKind pr w) vs c6→om ρ h I (merged B c6)→((merged B c6).map (·.1)).Nodup→ao Φ (kk I)→R)→R:=by
 induction l with
 |nil=>intro acc B vs p r a C f;cases r;exact f acc [] trivial a C p
 |cons c l ih=>
  intro acc B vs p r a C f;obtain ⟨x,y⟩:=c;have p:ao Φ (match bh x with| .s=>oJ z acc x y fun acc=>ef z acc l kk|_=> .no):=p;have Z:=iH x;cases hk:bh x with
  |s=>
   rw [hk] at p Z;refine aA Z fun st iY=>?_;subst iY;have p:ao Φ (oJ z acc (.str st) y fun acc=>ef z acc l kk):=p;rw [rI] at p;cases r with
   | @cons _ _ u v _ vs r1 r2 r3=>revert f;refine r1.bI fun t f=>ih p r3 (vP r2 a C) (yb C) fun I c6 h1 i d p=>f I ((st,v)::c6) ⟨strKind_is _ _ _ _,rfl,h1⟩ i d p
  |_=>rw [hk] at p;exact p.elim
noncomputable abbrev fz:Obj:={cls:= .type "dict",data:= .dict #[]}
theorem fm {K:Type} [DecidableEq K] {knd:KeyKind pr w K}:fz.IsDictOf knd []:=by exact ⟨#[],0,⟨rfl,rfl,rfl⟩,rfl,fun e he=>absurd he (by simp),.nil,.nil⟩
theorem Cx.Ok.ex {c:Cx} {ex:zA} (o:c.Ok w n):({c with ex:=ex}:Cx).Ok w n:=⟨o.G,o.hk,o.hg,o.hb,o.hd,o.hu,o.tp⟩
theorem Cx.Loc.more {c:Cx} {m T:Str→Option Value} {ex:zA} (l:c.Loc m T) (hs:∀p∈c.ex,p∈ex):({c with ex:=ex}:Cx).Loc m T:=⟨l.1,l.2.elim .inl fun ⟨o,ho,C⟩=> .inr ⟨o,hs _ ho,C⟩⟩
theorem Cx.aC.vG {od:Obj} (hfree:od.isFreed=false) (S:c.aC w W σ ls h):({c with ex:=(h.objs.size,od)::c.ex}:Cx).aC w W σ ls (h.push od)∧Go W σ h W σ (h.push od):=by
 refine bQ S.fr fun m F T V hm=>?_;have N1:=News.push (hfree:=hfree) F (nv S F) od;have N2:News c.g c.L (h.push od) (rB c W h):=(nv S F).pushKeep _;refine aZ (S.stand ku N2) fun S1 g1=>bQ S1.fr fun m F T V hm=>⟨⟨⟨m,F,T,V.more fun p A=> .tail _ A,hm⟩,fun p A=>?_,fun p A q Y=>?_,S1.cells⟩,g1⟩
 ·rcases jx A with A|A
  ·exact N1 p (.tail _ (dS _ (dS _ A)))
  ·rcases dP A with rfl|A
   ·exact N1 _ (.head _)
   ·exact N1 p (.tail _ (dS _ (d9 _ A)))
 ·rcases dP A with rfl|A
  ·exact fun e=>absurd (gu S (dS _ Y)) (Nat.not_lt.mpr (Nat.le_of_eq e))
  ·exact S.jl p A q Y
theorem Cx.aC.oN {D:Addr} {od od':Obj} {ex:zA} {X:Heap} (S:({c with ex:=(D,od)::ex}:Cx).aC w W σ ls h) (hx:∀p∈ex,p.1≠D) (H:c.ev.locals≠D) (hs:Heap.SameBut D h X) (ho:X.get? D=some od') (C:j9 od):
  ({c with ex:=(D,od')::ex}:Cx).aC w W σ ls X∧Go W σ h W σ X:=by
 have z:=S.nw (D,od) (d9 _ (.head _));have t:=gF hs z.1 C;have N:=kD (c:={c with ex:=(D,od)::ex}) S.nw hs ho z.2.1 z.2.2;refine bQ S.fr fun m F T V hm=>⟨⟨⟨m,jP (c:={c with ex:=(D,od)::ex}) hs z.2.1 z.2.2 m F,T,⟨V.1,V.2.elim .inl fun ⟨o,ho,C⟩=> .inr ⟨o,?_,C⟩⟩,j8.mono hm .refl t⟩,fun p A=>N p ?_,fun p A q Y=>?_,S.cells.keep t⟩,.refl,t⟩
 ·exact (dP ho).elim (fun e=>absurd (congrArg Prod.fst e) H) fun z=> .tail _ z
 ·rcases jx A with A|A
  ·exact .tail _ (bG.mpr ⟨dS _ A,fun e=>S.jl (D,od) (.head _) p A e.symm⟩)
  ·rcases dP A with rfl|A
   ·exact .head _
   ·exact .tail _ (bG.mpr ⟨d9 _ (.tail _ A),hx p A⟩)
 ·rcases dP A with rfl|A
  ·exact S.jl (D,od) (.head _) q Y
  ·exact S.jl p (.tail _ A) q Y
theorem Cx.aC.jk {D:Addr} {od:Obj} {ex:zA} (S:({c with ex:=(D,od)::ex}:Cx).aC w W σ ls h) (H:c.ev.locals≠D):({c with ex:=ex}:Cx).aC w W σ ls h:=by
 refine bQ S.fr fun m F T V hm=>⟨⟨m,F,T,⟨V.1,V.2.elim .inl fun ⟨o,ho,C⟩=> .inr ⟨o,?_,C⟩⟩,hm⟩,fun p A=>S.nw p ((jx A).elim (fun z=>dS _ z) fun z=>d9 _ (.tail _ z)),fun p A=>S.jl p (.tail _ A),S.cells⟩
 exact (dP ho).elim (fun e=>absurd (congrArg Prod.fst e) H) id
theorem Cx.aC.qb {D:Addr} {od:Obj} {b:CB} {g:Rg} (S:({c with ex:=(D,od)::c.ex}:Cx).aC w W σ ls h) (hx:∀p∈c.ex,p.1≠D) (H:c.ev.locals≠D) (hg:σ[av]?=some g) (C:j9 od)
  (hok:∀J:Wd,J.ob av g.n=od→bC W.ρ J.ρ→gI w J h av g.n D b):∃J,c.aC w J (ez z σ av b) ls h∧Go W σ h J (ez z σ av b) h∧J.ρ av g.n=some D:=by
 have S0:c.aC w W σ ls h:=S.jk H;refine az S0.fr fun m F Z=>S0.new1 (o:=od) hg (fun Z F=>F) (o5 (S.nw (D,od) (d9 _ (.head _))) (nv S0 F)) (fun p A=>(jx A).elim (fun z e=>S.jl (D,od) (.head _) p z e.symm) fun z=>hx p z) C fun J e le Z=>hok J e le
theorem iy.go {J:Wd} {σ':ah} {X:Heap} {l:zD} {vs:List (Value×Value)} (r:iy W.ρ h l vs) (g:Go W σ h J σ' X):iy J.ρ X l vs:=by
 induction r with
 |nil=>exact .nil
 |cons a b _ ih=>exact .cons (a.go g) (b.go g) ih
theorem kW {vs:List (Value×Value)}:∀{k k':List (Str×Value)},Carries (strKind pr w) vs k→Carries (strKind pr w) vs k'→k=k':=by
 induction vs with
 |nil=>
  intro k k' h g;cases k with
  |nil=>cases k' with
   |nil=>rfl
   |cons=>exact g.elim
  |cons=>exact h.elim
 |cons u vs ih=>
  intro k k' h g;cases k with
  |nil=>exact h.elim
  |cons a k=>cases k' with
   |nil=>exact g.elim
   |cons b k'=>cases u;cases a;cases b;exact congr (congrArg List.cons (congr (congrArg Prod.mk ((strKind pr w).inj _ _ _ h.1 g.1)) (h.2.1.symm.trans g.2.1))) (ih h.2.2 g.2.2)
theorem om.pairs {l:zD} {k:List (Str×Value)} (x:om ρ h l k):iy ρ h l (k.map fun p=>(.str p.1 0,p.2))∧Carries (strKind pr w) (k.map fun p=>(.str p.1 0,p.2)) k:=by
 induction x with
 |nil=>exact ⟨.nil,trivial⟩
 |cons r _ ih=>exact ⟨.cons (.str _ _) r ih.1,strKind_is _ _ _ _,rfl,ih.2⟩
theorem pn {k:List (Str×Value)} {s:Str} {v:Value}:stored k s v≠[]:=fun e=>by
 unfold stored at e;by_cases h:(k.any fun kv=>kv.1=s)=true
 ·rw [bk h,List.map_eq_nil_iff] at e
  subst e;exact nof h
 ·rw [aS h] at e
  exact absurd (List.append_eq_nil_iff.mp e).2 (by simp)
theorem oX:∀{more k:List (Str×Value)},k≠[]→merged k more≠[]
 |[],_,h=>h
 |_::more,_,_=>oX (more:=more) pn
end
theorem qc (f:(Option (Sem Value)×Sem Value)→(Option Addr×List (Sem Value×Sem Value))→Sem (ForInStep (Option Addr×List (Sem Value×Sem Value))))
  (hf:∀(m:Option Addr) (p:Sem Value×Sem Value) (run:List (Sem Value×Sem Value)),run.length+1<17→f (some p.1,p.2) (m,run)=pure (.yield (m,run++[p]))) (tail:List (Option (Sem Value)×Sem Value)) (m:Option Addr):
  ∀(items run:List (Sem Value×Sem Value)),run.length+items.length<17→forIn (items.map (fun p=>(some p.1,p.2))++tail) (m,run) f=forIn tail (m,run++items) f
 |[],run,_=>by rw [List.append_nil];rfl
 |p::rest,run,h=>by rw [List.length_cons] at h;rw [List.map_cons,List.cons_append,List.forIn_cons,hf m p run (VF h),pure_bind];refine (qc f hf tail m rest (run++[p]) (by rw [fO];show run.length+1+rest.length<17;exact VG h)).trans ?_;rw [List.append_assoc];rfl
theorem pZ {ps rest:List (Sem Value×Sem Value)} {p:Sem Value×Sem Value} (T:ps.length=16) (j:rest.isEmpty=false) (hr:rest.length<17):dictDisplay ((ps++p::rest).map fun p=>(some p.1,p.2))=(do
  let d←subDict (ps++[p]);let sub←holding [.ref d] (subDict rest)
  (holding [.ref d,.ref sub] (mergeMapping d (.ref sub) false)).onRaise fun x=>do let _←holding [.ref d,x] (runValue (.builtin "proto.let_go" {}))
  pure (.ref d)):=by
 have D:∀(q:Sem Value×Sem Value) (run:List (Sem Value×Sem Value)),run.length+1<17→((run++[q]).length==17)=false:=fun q run h=>by rw [fO];exact beq_eq_false_iff_ne.mpr (by show run.length+1≠17;exact VH h)
 have gM:((ps++[(p.1,p.2)]).length==17)=true:=by rw [fO,T];rfl
 unfold dictDisplay;dsimp only;rw [List.map_append,List.map_cons,qc _ (fun m q run h=>by simp only [D (q.1,q.2) run h,Bool.false_eq_true,if_false]) _ none ps [] (by rw [T];decide),List.forIn_cons];simp only [List.nil_append,gM,if_true,bind_assoc,pure_bind];rw [show (ps++[(p.1,p.2)]).isEmpty=false by cases ps<;>rfl];simp only [Bool.false_eq_true,if_false,bind_assoc,pure_bind];congr 1
 funext d
 rw [show rest.map (fun p=>(some p.1,p.2))=rest.map (fun p=>(some p.1,p.2))++[] from (List.append_nil _).symm,qc _ (fun m q run h=>by simp only [D (q.1,q.2) run h,Bool.false_eq_true,if_false]) [] (some d) rest [] (by rw [List.length_nil];exact VI hr)];simp only [List.forIn_nil,pure_bind,List.nil_append,j,Bool.false_eq_true,if_false,bind_assoc]
theorem tW {as rest:List (Sem Value×Sem Value)} (g:as.length=17) (j:rest.isEmpty=false) (hr:rest.length<17):dictDisplay ((as++rest).map fun p=>(some p.1,p.2))=(do
  let d←subDict as;let sub←holding [.ref d] (subDict rest)
  (holding [.ref d,.ref sub] (mergeMapping d (.ref sub) false)).onRaise fun x=>do let _←holding [.ref d,x] (runValue (.builtin "proto.let_go" {}))
  pure (.ref d)):=by
 have D:as≠[]:=fun e=>by rw [e] at g;exact nomatch g
 have:=pZ (ps:=as.dropLast) (rest:=rest) (p:=as.getLast D) (by rw [List.length_dropLast,g]) j hr;rw [List.dropLast_concat_getLast,show as.dropLast++as.getLast D::rest=as++rest by rw [show as.getLast D::rest=[as.getLast D]++rest from rfl,←List.append_assoc,List.dropLast_concat_getLast]] at this;exact this
section
variable {w:World} {K:Type} [DecidableEq K] {knd:KeyKind pr w K} {A:Around} {E:zQ} {s:Shared}
theorem rJ {d:Addr} {c6:List (K×Value)} {k:K} {key v:Value} {Q:Unit→Shared→Prop} (C:knd.is k key=true) (hm:s.heap.DictOf knd d c6) (hsz:c6.length≤sizeLine)
  (t:∀B,B.DictOf knd d (stored c6 k v)→Heap.SameBut d s.heap B→Q () {s with heap:=B}):wpAny (M0 w) A (dictPut d (knd.hash k) key v) Q E s:=by
 refine p9 hm fun o es ep ho hc hd hk T hn=>?_;have hes:es.size≤sizeLine:=by have r:=T.length;rw [Array.length_toList] at r;exact VJ r hsz
 unfold dictPut;refine bP (wpAny_dictFind_of C ho hd hk ?_);have J:(es.findIdx? fun e=>knd.is k e.key)=c6.findIdx? fun kv=>decide (kv.1=k):=by rw [←T.findIdx k];obtain ⟨l⟩:=es;simp
 cases hi:es.findIdx? fun e=>knd.is k e.key with
 |some i=>
  refine wpAny_updateDict ho hd (t _ ⟨_,_,ep,Heap.get?_update_self _ ho (Obj.isFreed_of_dict (Obj.data_mapDict hd _)),hc.mapDict _,Obj.data_mapDict hd _,hk.modify _ _,?_,?_⟩ (Heap.SameBut.update ..))
  ·rw [stored,bk (any_of_findIdx_some (J▸hi))]
   have hl:(es.toList.findIdx? fun e=>knd.is k e.key)=some i:=by rw [←hi];obtain ⟨l⟩:=es;simp
   have:=T.modify hn hl v;obtain ⟨l⟩:=es;simpa using this
  ·rw [stored,bk (any_of_findIdx_some (J▸hi)),keys_map_store];exact hn
 |none=>
  have P:k∉c6.map (·.1):=not_mem_of_findIdx_none (J▸hi);have R:¬(c6.any fun kv=>decide (kv.1=k))=true:=by rw [List.any_eq_true];rintro ⟨kv,M,he⟩;exact P (List.mem_map.mpr ⟨kv,M,dR he⟩)
  refine wpAny_updateDictKeys (hz:=hes) ho hd (t _ ⟨_,_,ep+1,Heap.get?_update_self _ ho (Obj.isFreed_of_dict (Obj.data_mapDictKeys hd _)),hc.mapDictKeys _,Obj.data_mapDictKeys hd _,hk.push C _,?_,?_⟩ (Heap.SameBut.update ..))
  ·rw [stored,aS R]
   have:=T.append C (knd.hash k) v;obtain ⟨l⟩:=es;simpa using this
  ·rw [stored,aS R,List.map_append,List.nodup_append]
   refine eo hn (by simp) ?_;intro a g b hb;simp only [List.map_cons,List.map_nil,List.mem_singleton] at hb;subst hb;exact fun e=>P (e▸g)
theorem xO {d b:Addr} {c6 more:List (K×Value)} {Q:Unit→Shared→Prop} (c:d≠b) (UJ:(b==sysModules)=false) (hd:s.heap.DictOf knd d c6) (j:c6≠[]) (hb:s.heap.DictOf knd b more) (hsz:c6.length+more.length≤sizeLine)
  (t:∀B,B.DictOf knd d (merged c6 more)→Heap.SameBut d s.heap B→Q () {s with heap:=B}):wpAny (M0 w) A (mergeMapping d (.ref b) false) Q E s:=by
 refine p9 (id hd) fun od n Xc hod hcd UN hkd z hnd=>p9 (id hb) fun ob es ep U hcb I hkb Y hnb=>?_;have hlen:more.length=es.size:=by rw [←Y.length];exact Array.length_toList
 have D:n.isEmpty=false:=by
  cases h:n.isEmpty with
  |false=>rfl
  |true=>have r:=z.length;rw [Array.isEmpty_iff.mp h] at r;exact absurd (List.length_eq_zero_iff.mp r.symm) j
 unfold mergeMapping;refine bP (wpAny_isInstance hb.typeIs PySem.F.sub_dict_dict ?_);rw [bk rfl];refine bP (wpAny_specialOf hb.typeIs F.slot_dict_iter.lookup ?_);rw [beq_self_eq_true];refine bP (dY ?_);show wpAny _ _ (if (b==sysModules)=true then _ else _) _ _ _;rw [aS (by rw [UJ];exact Bool.false_ne_true)];refine bP (wpAny_dictEntries hod UN ?_);rw [aS (by rw [D];exact Bool.false_ne_true)];refine bP (wpAny_dictEntries U I (bP (wpAny_dictEpoch U I ?_)));refine bP ?_;show wpAny _ _ (forIn (List.range es.size) PUnit.unit _) _ _ s;refine wpAny_forIn_list _ (fun rest T y=>∃B i,y={s with heap:=B}∧rest=List.range' i (es.size -i)∧i≤es.size∧B.DictOf knd d (merged c6 (more.take i))∧Heap.SameBut d s.heap B) _ (fun x rest q y hI=>?_) (fun q y hI=>?_) _ _ ⟨s.heap,0,rfl,?_,Nat.zero_le _,hd,Heap.SameBut.refl _ _⟩
 ·refine zg hI fun B i V hr hi N L=>?_;subst V
  have G:i<es.size:=by
   rcases Nat.lt_or_ge i es.size with h|h
   ·exact h
   ·rw [Nat.sub_eq_zero_of_le h] at hr;simp at hr
  obtain ⟨rfl,S⟩:x=i∧rest=List.range' (i+1) (es.size -(i+1)):=by have e:es.size -i=(es.size -(i+1))+1:=R6 G;rw [e,List.range'_succ] at hr;injection hr with h1 u;exact ⟨h1,u⟩
  have O:B.get? b=some ob:=(L.2 b (Ne.symm c)).trans U;obtain ⟨kv,M⟩:∃kv,more[x]?=some kv:=⟨_,tD (RX G hlen)⟩
  refine aZ (Y.get? (i:=x) (e:=es[x]) (k:=kv.1) (v:=kv.2) (by rw [Array.getElem?_toList];exact Array.getElem?_eq_getElem G) M) fun C hval=>?_;refine az (hkb es[x] (Array.getElem_mem G)) fun k' hk' hh=>bP (wpAny_dictEntries (s:={s with heap:=B}) O I ?_);rw [Array.getElem?_eq_getElem G];refine bP (wpAny_holding ?_);rw [aS Bool.false_ne_true];show wpAny _ _ (dictPut d es[x].hash es[x].key es[x].val) _ _ _;rw [hh,knd.inj _ _ _ hk' C];have Z:=merged_length_le c6 (more.take x);rw [List.length_take] at Z;refine rJ (s:={s with heap:=B}) C N (VK hsz G hlen Z) fun u hd2 X=>bP (wpAny_dictEpoch (s:={s with heap:=u}) ((X.2 b (Ne.symm c)).trans O) I ?_);rw [aS (by simp)];refine dY ⟨u,x+1,rfl,S,G,?_,L.trans X⟩;rw [merged_take_succ _ _ _ _ M,←hval];exact hd2
 ·refine zg hI fun B i V hr hi N L=>?_;subst V
  have hin:i=es.size:=by
   rcases Nat.lt_or_ge i es.size with h|h
   ·have e:es.size -i=(es.size -(i+1))+1:=R6 h
    rw [e,List.range'_succ] at hr;exact nomatch hr
   ·exact Nat.le_antisymm hi h
  rw [hin,←hlen,List.take_length] at N;exact dY (t B N L)
 ·rw [List.range_eq_range',Nat.sub_zero]
theorem sX {pairs:List (Sem Value×Sem Value)} {Q:Addr→Shared→Prop} (hlen:pairs.length≤15)
  (h:wpAny (M0 w) A (evalPairs pairs) (fun vs H=>vs.length=pairs.length→∃c6,Carries knd vs c6∧H.heap.DictOf knd s.heap.objs.size []∧
   ∀B,B.DictOf knd s.heap.objs.size (merged [] c6)→Heap.SameBut s.heap.objs.size H.heap B→Q s.heap.objs.size (sh H B (H.toks+vs.length))) E
   {s with heap:=s.heap.push {cls:= .type "dict",data:= .dict #[]}}):wpAny (M0 w) A (subDict pairs) Q E s:=
 wpAny_subDict hlen (wpAny_mono (wpAny_evalPairs_len h) (fun Z Z hq=>hq.2 hq.1) fun Z Z e=>e)
end
section
variable {w:World} {c:Cx} {W:Wd} {σ:ah} {ls:Lc} {s:Shared} {Q E:zQ} {n k:Nat} {q:zT} {z:Bool} {av:Nat} {x:Expr} {rx:Bool→Nat→zT} {Φ:zP} {h:Heap} {ρ:gJ}
theorem IsDictOf.sy {K:Type} [DecidableEq K] {knd:KeyKind pr w K} {od:Obj} {c6:List (K×Value)} (h:od.IsDictOf knd c6):j9 od:=fun q=>by refine dB h fun Z Z V Z=>absurd (V.1.symm.trans q.1) aD
variable (H:ic w n q) (o:c.Ok w n)
include H o
theorem GN {Q:Shared→Prop} {m:List (ME×ME)} {ks:List (Option Expr)} {vs:List Expr} {pos:Pos} {D:Addr} {od:Obj} {c6:List (Str×Value)} (t:wJ (cD (zk w) k c.ev.scope) m ks vs=true) (S:({c with ex:=(D,od)::c.ex}:Cx).aC w W σ ls s.heap) (hd:od.IsDictOf (strKind pr w) c6) (V:∀p∈c.ex,p.1≠D) (A:c.ev.locals≠D) (hlen:c6.length+m.length≤30)
  (p:ao (HP w c W σ ls s D m.length c6 Q) (step PG z av q rx (.kv m) σ ls)):zw w c (forIn (pairTrees ks vs c.ev pos) PUnit.unit (s8 D)) (fun Z s'=>Q s') E s:=by
 cases m with
 |nil=>cases ks with
  |nil=>cases vs with
   |nil=>show wpAny _ _ (forIn [] PUnit.unit (s8 D)) _ _ _;rw [List.forIn_nil];exact dY (p W s.heap s.toks od [] [] S .refl .nil trivial hd rfl)
   |cons _ _=>exact nof t
  |cons _ _=>exact nof t
 |cons e l=>cases ks with
  |nil=>exact nof t
  |cons ko ks=>cases ko with
   |none=>exact nof t
   |some ke=>cases vs with
    |nil=>exact nof t
    |cons ve vs=>
     refine af (b:=cD (zk w) k c.ev.scope e.2 ve&&wJ (cD (zk w) k c.ev.scope) l ks vs) t fun t1 t=>af t fun t2 t3=>?_;show wpAny _ _ (forIn ((eval ke c.ev,do let x←eval ve c.ev;standAt pos;pure x)::pairTrees ks vs c.ev pos) PUnit.unit (s8 D)) _ _ _;rw [List.forIn_cons];unfold s8;refine bP (bP (H.bv (c:={c with ex:=(D,od)::c.ex}) o.ex t1 S p fun d σ1 W1 h1 bO v1 S1 g1 r1 p=>m9 p fun hst p=>?_));refine bP (wpAny_holding (bP (H.bv (c:={c with ex:=(D,od)::c.ex}) (s:=sh s h1 bO) o.ex t2 S1 p fun d2 σ2 W2 Y C v2 B g2 r2 p=>bP (wpAny_standAt (dY ?_)))));cases d with
     |str st=>
      revert g1;refine r1.bI fun tk g1=>?_;have hD:=B.nw (D,od) (d9 _ (.head _));refine bP (wpAny_holding (wpAny_dictSet_pairs (knd:=strKind pr w) (hsz:=by have:=g_;rw [List.length_cons] at hlen;exact VL hlen this) (strKind_is _ _ st tk) (IsDictOf.dictOf hd hD.1) fun h' P hs=>dY ?_));refine az (Heap.dictOf_iff.mp P) fun od' ho' P=>aZ (B.oN V A hs ho' (IsDictOf.sy hd)) fun S3 g3=>H.kl (s:=(sh s h' (C+1))) o t3 S3 P V A (by have:=stored_length_le c6 st v2;rw [List.length_cons] at hlen;exact VN hlen this) (p.bind.mono fun rs σ3 Z zz=>?_);cases rs with
      |kv ds=>exact fun W' h4 i Wk Xo QN S4 g4 r4 c4 d4 l4=>zz W' h4 i Wk _ ((st,v2)::QN) S4 (g1.trans (g2.trans (g3.trans g4))) (.cons (.str st tk) (r2.go (g3.trans g4)) r4) ⟨strKind_is _ _ _ _,rfl,c4⟩ d4 (congrArg (·+1) l4)
      |_=>exact zz.elim
     |_=>exact nof hst
variable (S:c.aC w W σ ls s.heap)
include S
theorem vR {m m':Str→Option Value} (F:Fr c.g c.L s.heap m) (l:c.Loc m m'):c.ev.locals≠s.heap.objs.size:=fun e=>l.2.elim (fun z=>absurd F.ns.lt (Nat.not_lt.mpr (Nat.le_of_eq (e.symm.trans z.1)))) fun ⟨o,ho,_⟩=>absurd (gu S (d9 _ ho)) (Nat.not_lt.mpr (Nat.le_of_eq e.symm))
theorem Aq:(s.heap.objs.size==sysModules)=false:=by refine az S.fr fun m F Z=>ji o.G.T fun mg mb T=>F.notModules (modules_low T.nolimit)
theorem C0 {l:List (ME×ME)} (t:kP (zk w) (cD (zk w) k) c.ev.scope (.dct l) x=true) (p:ao (fk w c W σ ls s Q E) (cC PG z av q rx (.dct l) σ ls)):zw w c (eval x c.ev) Q E s:=
 au t fun u hu t=>by
  rw [s_ hu];refine eg (mC t) fun f J j=>bQ S.fr fun mm F m' hl K=>?_;have A:=vR H o S F hl;have V:∀p∈c.ex,p.1≠s.heap.objs.size:=fun p hp=>lM (gu S (d9 _ hp));have X:=Aq H o S;have r:=g_;cases l with
  |nil=>
   rw [List.length_eq_zero_iff.mp J,List.length_eq_zero_iff.mp j];have p:ao (fk w c W σ ls s Q E) (cT z av σ (.dict .z []) fun v σ=> .ok (.v v) σ ls):=p;refine gV p fun g hg p=>ji o.G.T fun mg mb T=>newDict_K F (nv S F) T.nolimit (fun a h' ob F' N' hlt X hd K hdi K=>?_);obtain ⟨W2,B,g2,e2⟩:=S.new1 (b:= .dict .z []) hg (iP F F') N' (fun p hp=>lM (hlt p (dS _ hp))) (IsDictOf.sy hdi) fun W' e1 le K=>⟨X,by rw [e1];exact ⟨rfl,hdi⟩⟩
   exact p.now (tk₁:=s.toks) B g2 (.aj e2)
  |cons e l=>
   refine aZ (S.vG (od:=fz) rfl) fun S1 g1=>?_;have p:ao (fk w c W σ ls s Q E) (match Nat.ble (e::l).length 15 with|true=>_|false=>_):=p;cases y:Nat.ble (e::l).length 15 with
   |true=>
    rw [y] at p;refine wpAny_Dict_walk (knd:=strKind pr w) f (J.trans j.symm) (fun e=>by rw [e] at J;exact nomatch J) (by rw [J];exact pG y)<|H.BP (c:={c with ex:=(s.heap.objs.size,fz)::c.ex}) (s:={s with heap:=s.heap.push fz}) o.ex t S1 p fun d σ2 W2 Y C v2 B g2 r2 p=>fU (w:=w) p r2 .nil .nil fun es c6 hC hK K p=>gV p fun g hg p=>?_
    have hD:=B.nw (s.heap.objs.size,fz) (d9 _ (.head _));refine n6 c6 hC (IsDictOf.dictOf fm hD.1) (fun h' P hs=>?_);refine az (Heap.dictOf_iff.mp P) fun ob hob hod=>aZ (B.oN V A hs hob (IsDictOf.sy (knd:=strKind pr w) fm)) fun S3 g3=>?_;obtain ⟨W4,S4,g4,e4⟩:=S3.qb (b:= .dict .s es) V A hg (IsDictOf.sy hod) fun W' e le=>⟨X,by rw [e];exact ⟨_,hod,hK.mono (g3.e.le.trans le) g3.t⟩⟩
    exact p.now S4 (g1.trans (g2.trans (g3.trans g4))) (.aj e4)
   |false=>
    rw [y] at p;refine m9 p fun hb p=>af hb fun U R=>?_;have U:=pG U;have R:=pG R;obtain ⟨Wf,W9,Sk,SO,t1,t2,h3⟩:=Bj (pos:=u.2.2) (env:=c.ev) 17 t;refine eg (mC t1) fun ha1 hk1 hv1=>eg (mC t2) fun ha2 hk2 hv2=>?_;have hl1:(pairTrees Wf W9 c.ev u.2.2).length=17:=by rw [pairTrees_length _ _ _ _ ha1 (hk1.trans hv1.symm),hk1,List.length_take];exact Nat.min_eq_left (Nat.le_of_succ_le U)
    have O:(pairTrees Sk SO c.ev u.2.2).length=(e::l).length -17:=by rw [pairTrees_length _ _ _ _ ha2 (hk2.trans hv2.symm),hk2,List.length_drop]
    rw [arm_eval_Dict,zip_pairTrees _ _ _ _ f (J.trans j.symm),h3,tW hl1 (by
     cases hq:pairTrees Sk SO c.ev u.2.2 with
     |nil=>rw [hq] at O;have:0=(e::l).length -17:=O;exact absurd this (lM (Nat.sub_pos_of_lt U))
     |cons _ _=>rfl) (by rw [O];exact Nat.lt_of_le_of_lt (Nat.sub_le_sub_right R 17) aD)]
    refine bP (wpAny_standAt (bP ?_));unfold subDict;refine bP (wpAny_alloc (bP (wpAny_holding ?_)));rw [aS (by rw [hl1];decide)];refine bP (wpAny_rule (bP ?_));refine H.kl (s:={s with heap:=s.heap.push fz}) (D:=s.heap.objs.size) (c6:=[]) o t1 S1 fm V A (by rw [List.length_take];show 0+min 17 _≤30;rw [Nat.zero_add];exact fQ (Nat.min_le_left _ _) aD) (p.bind.mono fun rs σ2 K p=>?_);cases rs with
    |kv ds=>
     intro W2 Y C I v2 M B g2 r2 c2 d2 l2;rw [List.length_take,Nat.min_eq_left (Nat.le_of_succ_le U)] at l2;have hD:=B.nw (s.heap.objs.size,I) (d9 _ (.head _));refine bQ B.fr fun m2 F2 Xf MY K=>?_;have o2:({c with ex:=(s.heap.objs.size,I)::c.ex}:Cx).Ok w n:=o.ex;have N:=vR (s:=sh s Y C) H o2 B F2 MY;have Nb:=Aq (s:=sh s Y C) H o2 B;have hne:s.heap.objs.size≠Y.objs.size:=lM (Heap.lt_size hD.1);refine aZ (B.vG (od:=fz) rfl) fun S3 g3=>dY (dY (bP (wpAny_holding (sX (knd:=strKind pr w) (by rw [O];exact Nat.sub_le_of_le_add (fQ R aD)) ?_))));refine H.BP (c:={c with ex:=(Y.objs.size,fz)::(s.heap.objs.size,I)::c.ex}) (s:=(sh s (Y.push fz) C)) o.ex t2 S3 p fun d4 SQ W4 h4 i v4 S4 g4 r4 p hlen=>?_;have Nf:∀p∈(s.heap.objs.size,I)::c.ex,p.1≠Y.objs.size:=fun p hp=>lM (gu B (d9 _ hp));refine fU (w:=w) p (r2.go (g3.trans g4)) .nil .nil fun es1 k1 C1 K1 n1 p=>?_;cases kW C1 c2;refine fU (w:=w) p r4 .nil .nil fun Tz k2 C2 K2 n2 p=>fU (w:=w) p (om.pairs (w:=w) K2).1 K1 n1 fun TA k3 C3 K3 n3 p=>?_;cases kW C3 (om.pairs (w:=w) K2).2;refine gV p fun g hg p=>?_;have UE:=S4.nw (Y.objs.size,fz) (d9 _ (.head _));refine n6 k2 C2 (IsDictOf.dictOf fm UE.1) (fun h5 RO Na=>?_);refine az (Heap.dictOf_iff.mp RO) fun Xk M7 U5=>aZ (S4.oN Nf N Na M7 (IsDictOf.sy (knd:=strKind pr w) fm)) fun S5 g5=>?_;have S6:({c with ex:=(s.heap.objs.size,I)::c.ex}:Cx).aC w W4 SQ ls h5:=S5.jk N;have UG:=S6.nw (s.heap.objs.size,I) (d9 _ (.head _));have m1:=merged_length_le ([]:List (Str×Value)) M;have m2:=merged_length_le ([]:List (Str×Value)) k2;have q1:=C1.length;have q2:=C2.length;have hk0:M≠[]:=fun e=>by rw [e] at q1;rw [←q1] at l2;exact nomatch l2
     refine bP (wpAny_onRaise (wpAny_holding (xO (s:=(sh s h5 (i+v4.length))) (knd:=strKind pr w) hne Nb (IsDictOf.dictOf d2 UG.1) ?_ RO ?_ fun h7 UM U_=>?_)))
     ·cases M with
      |nil=>exact absurd rfl hk0
      |cons p k1=>exact oX (more:=k1) pn
     ·rw [List.length_nil] at m1 m2
      exact p7 r R O l2 hlen m1 m2 q1 q2
     ·refine az (Heap.dictOf_iff.mp UM) fun Xl M8 Z=>aZ (S6.oN V A U_ M8 (IsDictOf.sy d2)) fun S7 g7=>?_
      obtain ⟨W8,S8,g8,e8⟩:=S7.qb (b:= .dict .s TA) V A hg (IsDictOf.sy Z) fun W' e le=>⟨X,by rw [e];exact ⟨_,Z,K3.mono le (aX.trans g5.t g7.t)⟩⟩
      exact dY (p.now S8 (g1.trans (g2.trans (g3.trans (g4.trans (g5.trans (g7.trans g8)))))) (.aj e8))
    |_=>exact p.elim
end
noncomputable def uF:Nat→Nat→List DV
 |_,0=>[]
 |i,n+1=> .int (.ofNat i)::uF (i+1) n
theorem kI {β:Type}:∀{n i:Nat} {k:List DV→β},nF i n k=k (uF i n)
 |0,_,_=>rfl
 |n+1,i,k=>by show kZ (i+1) (fun j=>nF j n fun l=>k (.int (.ofNat i)::l))=k (.int (.ofNat i)::uF (i+1) n);rw [jL,kI]
theorem jr:∀{n i:Nat},(uF i n).length=n
 |0,_=>rfl
 |n+1,i=>congrArg (·+1) jr
theorem wu:∀{n i j:Nat} {d:DV},(uF i n)[j]?=some d→d= .int (.ofNat (i+j))
 |0,_,_,_,e=>nomatch e
 |n+1,i,0,d,e=>(bw e).symm
 |n+1,i,j+1,d,e=>(wu (n:=n) (i:=i+1) (j:=j) e).trans (by rw [Nat.add_assoc,Nat.add_comm 1 j])
structure It (w:World) (c:Cx) (W:Wd) (σ:ah) (h₀:Heap) (I:Addr) (ds:zL) (g:zO) (fp:List Addr) (P:Nat→Value→Prop) (St:Nat→Heap→Prop):Prop where
 wk:Walks pr w c.A I fp [I] ds.length P St
 st:St 0 h₀
 cls:∀i h,St i h→∃o aK,h.get? I=some o∧o.cls= .type aK∧(aK="list_iterator" ∨aK="tuple_iterator" ∨aK="range_iterator")
 rel:∀(i:Nat) (v:Value) (d:DV) (W1:Wd) (D:Heap),P i v→ds[i]?=some d→bC W.ρ W1.ρ→aX h₀ D→aP W1.ρ D d v
 keep:∀{c1 c2:Cx} {W1 W2:Wd} {C V:ah} {l1 l2:Lc} {D h2:Heap},c1.aC w W1 C l1 D→c2.aC w W2 V l2 h2→Go W σ h₀ W1 C D→Go W1 C D W2 V h2→eW C g=true→eW V g=true→∀b∈fp,b≠I→∀o,D.get? b=some o→h2.get? b=some o
section
variable {w:World} {c:Cx} {W:Wd} {σ:ah} {ls:Lc} {s:Shared} {Q E:zQ} {n k:Nat} {q:zT} {z:Bool} {av:Nat} {x:Expr} {rx:Bool→Nat→zT} {U:zP} {h:Heap} {ρ:gJ}
theorem GA {e:Expr} {env:Env} (h:isSet e=false) (x:Value):foldedSetIterable e env x=pure x:=by
 cases e with
 |Set=>exact nof h.symm
 |_=>rfl
abbrev LM (w:World) (c:Cx) (W:Wd) (σ:ah) (ls:Lc) (s:Shared) (U:zP) (r:Option (Nat×Nat×Nat)→List DV→RR) (Q:zQ):Prop:=
 ∀g ds I h' tk fp P St,It w c W σ h' I ds g fp P St→c.aC w W σ ls h'→Go W σ s.heap W σ h'→(∀p∈W.led++c.ex,p.1≠I)→c.g.get? I=none→I≠c.L→I<h'.objs.size→eW σ g=true→ds.length≤5000→ao U (r g ds)→Q (.ref I) (sh s h' tk)
theorem x7 {d:DV} {v:Value} {r:Option (Nat×Nat×Nat)→List DV→RR} (S:c.aC w W σ ls s.heap) (rv:aP W.ρ s.heap d v) (p:ao U (fD z σ d r)) (h:LM w c W σ ls s U r Q):zw w c (pyIter v) Q E s:=by
 refine eg (fresh_at S (jd _)) fun f1 f2 f3=>?_;cases d with
 |ai l=>
  refine bN p fun hs p=>rv.b_ fun ax vs t hr=>?_;have ht:=bD t;obtain ⟨ot,X,y,nt,Z⟩:=id ht;refine wpAny_pyIter_tuple ht<|aZ (S.push (o:={cls:= .type "tuple_iterator",data:= .fields #[.ref ax,.int 0 0]})) fun S2 g2=>?_
  have hlen:vs.toArray.size=l.length:=hr.length;have wk:=Walks.tuple (prog:=pr) (w:=w) (A:=c.A) rfl s.heap.objs.size ax (lM (Heap.lt_size X)) vs.toArray;rw [hlen] at wk;refine h none l _ _ s.toks _ _ _ ⟨wk,⟨⟨_,Heap.get?_push_size _ rfl,rfl,rfl⟩,⟨ot,Heap.get?_push_of_some _ X,y,nt,Z⟩⟩,fun i h' hi=>?_,fun i v d W2 h2 R hd le T=>?_,fun S2 S3 G2 G3 v2 v3 b hb J ob Y=>?_⟩ S2 g2 f1 f2 f3 (by rw [Heap.size_push];exact Nat.lt_succ_self _) rfl hs p
  ·obtain ⟨⟨oo,ho,hc',_⟩,_⟩:=hi
   exact xC oo _ ho hc' (.inr (.inl rfl))
  ·refine az (hr.get (aH.trans hd)) fun u hu q=>?_
   have R:vs[i]?=some v:=by simpa using R
   cases hu.symm.trans R;exact q.mono le (aX.trans g2.t T)
  ·have IX:b=ax:=(dP hb).elim (fun q=>absurd q J) fun q=>nW q
   subst IX;have q2:=G2.t b ot ⟨y,_,_,Z⟩ (Heap.get?_push_of_some _ X);cases q2.symm.trans Y;exact G3.t b ot ⟨y,_,_,Z⟩ q2
 |aj i j=>
  refine rv.bK fun ax ha=>bq p fun cz b hc p=>?_;cases b with
  |list l=>
   refine bN p fun hs p=>dB (S.tG hc ha) fun vs mm M hr=>wpAny_pyIter_list (cL M) ?_;refine aZ (S.push (o:={cls:= .type "list_iterator",data:= .fields #[.ref ax,.int 0 0]})) fun S2 g2=>?_;have hlen:vs.toArray.size=l.length:=hr.length;have wk:=Walks.list (prog:=pr) (w:=w) (A:=c.A) rfl s.heap.objs.size ax (lM (Heap.lt_size M)) vs.toArray;rw [hlen] at wk;have ve:∀{σ:ah} {c0:Cell},eW σ (some (i,j,cz))=true→aN σ i j=some c0→c0.cz=cz:=fun hv hc0=>by have hv:(match aN _ i j with|some c=>Nat.beq c.cz cz|none=>false)=true:=hv;rw [hc0] at hv;exact ie hv
   refine h (some (i,j,cz)) l _ _ s.toks _ _ _ ⟨wk,⟨⟨_,Heap.get?_push_size _ rfl,rfl,rfl⟩,⟨_,Heap.get?_push_of_some _ M,rfl,mm,rfl⟩⟩,fun i h' hi=>?_,fun i v d W2 h2 R hd le T=>?_,fun T2 T3 G2 G3 v2 v3 b hb J ob Y=>?_⟩ S2 g2 f1 f2 f3 (by rw [Heap.size_push];exact Nat.lt_succ_self _) (by show (match aN σ i j with|some c=>Nat.beq c.cz cz|none=>false)=true;rw [hc];exact Nat.beq_refl _) hs p
   ·obtain ⟨⟨oo,ho,hc',_⟩,_⟩:=hi
    exact xC oo _ ho hc' (.inl rfl)
   ·refine az (hr.get (aH.trans hd)) fun u hu q=>?_
    have R:vs[i]?=some v:=by simpa using R
    cases hu.symm.trans R;exact q.mono le (aX.trans g2.t T)
   ·have IX:b=ax:=(dP hb).elim (fun q=>absurd q J) fun q=>nW q
    subst IX;refine iZ (G2.e.cz i j _ hc) fun c2 hc2 O k2=>iZ (G3.e.cz i j _ hc2) fun c3 hc3 O k3=>aZ (k3 ((ve v2 hc2).trans (ve v3 hc3).symm)) fun O o3=>jH (T2.cells.cell i j _ hc2) fun a2 Tq O Tu O=>jH (T3.cells.cell i j _ hc3) fun a3 Tt O Tv O=>?_;cases Tq.symm.trans (G2.e.le _ _ _ ha);cases Tt.symm.trans (G3.e.le _ _ _ (G2.e.le _ _ _ ha));have q2:=(T2.nw _ (dS _ Tu)).1;have q3:=(T3.nw _ (dS _ Tv)).1;cases q2.symm.trans Y;rw [o3] at q3;exact q3
  |_=>exact p.elim
 |_=>exact p.elim
theorem nG {N:Nat}:Builtin.Range.rangeSize 0 (Int.ofNat N) 1=((N:Nat):Int):=by
 unfold Builtin.Range.rangeSize;rw [bk aD];cases N with
 |zero=>rfl
 |succ n=>rw [bk (show (0:Int)<Int.ofNat (n+1) from Int.ofNat_lt.mpr (Nat.succ_pos n)),Int.sub_zero,Int.ediv_one];exact Int.sub_add_cancel _ _
theorem sC {N:Nat} (h:N≤5000):Builtin.Range.small 0 (Int.ofNat N) 1=true:=by
 unfold Builtin.Range.small;simp only [nG];have q1:Builtin.Range.rangeFitsLong (N:Int)=true:=by unfold Builtin.Range.rangeFitsLong;simp;exact VO h
 have q2:Builtin.Range.rangeFitsLong 0=true:=by decide
 have q3:Builtin.Range.rangeFitsLong 1=true:=by decide
 simp [q1,q2,q3]
theorem sO {d:DV} {v:Value} {r:Option (Nat×Nat×Nat)→List DV→RR} (S:c.aC w W σ ls s.heap) (rv:aP W.ρ s.heap d v) (p:ao U (kJ z d r)) (h:LM w c W σ ls s U r Q):zw w c (call (.type "range") [v]) (fun x F=>zw w c (pyIter x) Q E F) E s:=by
 cases d with
 |int i=>cases i with
  |ofNat N=>
   refine bN p fun hs p=>rv.aG fun tk=>call_range_1 ?_;rw [kI] at p;refine aZ (S.push (o:={cls:= .type "range",data:= .fields #[.int 0 s.toks,.int (Int.ofNat N) tk,.int 1 (s.toks+1)]})) fun S2 g2=>wpAny_pyIter_range (IsRange.new ..) (sC hs) ?_;refine aZ (S2.push (o:={cls:= .type "range_iterator",data:= .fields #[rawInt 0,rawInt (Builtin.Range.rangeSize 0 (Int.ofNat N) 1),rawInt 1]})) fun S3 g3=>eg (fresh_at S2 (jd _)) fun f1 f2 f3=>?_;have wk:=Walks.range (prog:=pr) (w:=w) (A:=c.A) rfl (s.heap.push {cls:= .type "range",data:= .fields #[.int 0 s.toks,.int (Int.ofNat N) tk,.int 1 (s.toks+1)]}).objs.size 0 1 (uF 0 N).length;refine h none _ _ _ (s.toks+1+1) _ _ _ ⟨wk,?_,fun i h hi=>⟨_,_,hi,rfl,.inr (.inr rfl)⟩,fun i v d W1 D R hd Z Z=>?_,fun Z Z Z Z Z Z b hb J=>absurd (nW hb) J⟩ S3 (g2.trans g3) f1 f2 f3 (by rw [Heap.size_push _ {cls:= .type "range_iterator",data:= .fields #[rawInt 0,rawInt (Builtin.Range.rangeSize 0 (Int.ofNat N) 1),rawInt 1]}];exact Nat.lt_succ_self _) rfl (by rw [jr];exact hs) p
   ·rw [nG,jr]
    unfold IsRangeIter;rw [Heap.get?_push_size]
    ·simp
    ·rfl
   ·refine aA R fun tt iY=>?_;subst iY
    rw [wu hd,show (0:Int)+(i:Nat)*1=Int.ofNat (0+i) by simp];exact .int _ _
  |negSucc _=>exact p.elim
 |_=>exact p.elim
theorem A4 (H:ic w n q) (o:c.Ok w n) (S:c.aC w W σ ls s.heap) {ig:Bool} {m:ME} {r:ah→Option (Nat×Nat×Nat)→List DV→RR} (t:yf (zk w) (cD (zk w) k c.ev.scope) c.ev.scope ig m x=true) (p:ao U (bv (q (.e m) σ ls) fun d σ=>(match ig with|true=>kJ z d|false=>fD z σ d) (r σ)))
  (h:∀B O G tk₁,c.aC w O B ls G→Go W σ s.heap O B G→LM w c O B ls (sh s G tk₁) U (r B) Q):zw w c (eval x c.ev) (fun x F=>zw w c (pyIter x) Q E F) E s:=by
 cases ig with
 |false=>exact af t fun t1 Z=>H.bv o t1 S p fun d C W1 D bO v1 S1 g1 r1 p=>x7 (s:=sh s D bO) S1 r1 p (h _ _ _ _ S1 g1)
 |true=>refine au t fun u hu t=>af t fun t0 t=>au t fun f hf t=>au t fun a ha t=>af t fun t1 t=>af t fun t2 t3=>?_;have e:=cR hu;rw [aU hf,cO ha,bg t0] at e;rw [e];refine Call_Name rfl (uH o t1 S boot_range aD ?_);exact callWith_type1 (wpAny_items_cons (H.bv o t2 S p fun d C W1 D bO v1 S1 g1 r1 p=>wpAny_items_nil (sO (s:=sh s D bO) S1 r1 p (h _ _ _ _ S1 g1))) (dM (bu t3))) (dM (bu t3))
theorem sZ {ig:Bool} {m:ME} {K:Frag} {q:ME→Expr→Bool} {sc:Scope} (t:yf K q sc ig m x=true) {env:Env} (v:Value):foldedSetIterable x env v=pure v:=by
 cases ig with
 |false=>exact af t fun Z t2=>GA (bu t2) v
 |true=>exact au t fun u hu Z=>by rw [cR hu];rfl
end
section
variable {xs:List Nat} {bs:Lc} {v:Value}
theorem kH {β:Type}:∀{l ls:Lc} {k:Lc→β},putAll l ls k=k (fc l ls)
 |[],_,_=>rfl
 |p::l,ls,k=>by show c_ ls p.1 p.2 (fun ls=>putAll l ls k)=_;rw [cU,kH];rfl
theorem wL {sc:Scope} {x:Nat} {l:List Nat} {es:List Expr} {R:Prop} (h:s7 sc (x::l) es=true) (k:∀z p r,es= .Name z p::r→gE sc x z=true→s7 sc l r=true→R):R:=by
 cases es with
 |nil=>exact nof h
 |cons e es=>exact au h fun t ht h=>af h fun h1 Z=>k t.1 t.2 es (by rw [aU ht]) h1 Z
theorem rL {sc:Scope} {env:Env}:∀{xs:List Nat} {es:List Expr},s7 sc xs es=true→(assignEach es env).length=xs.length∧(assignEach es env).findIdx? (·.1)=none
 |[],es,t=>by rw [bg t];exact ⟨rfl,rfl⟩
 |x::xs,es,t=>wL t fun z p r he t1 t2=>by
  rw [he];refine aZ (rL (env:=env) t2) fun h1 Z=>⟨congrArg (·+1) h1,?_⟩
  show ((false,assign (.Name z p) env)::assignEach r env).findIdx? (·.1)=none;rw [List.findIdx?_cons,Z];rfl
theorem mF {R:Prop} {x:Nat} {l:zL} (h:eS (x::xs) l=some bs) (k:∀v vs r,l=v::vs→eS xs vs=some r→bs=(x,v)::r→R):R:=by
 cases l with
 |nil=>exact aW h
 |cons v vs=>
  have h:(match eS xs vs with|some r=>some ((x,v)::r)|none=>none)=some bs:=h;cases e:eS xs vs with
  |none=>rw [e] at h;exact aW h
  |some r=>rw [e] at h;exact k v vs r rfl e (bw h).symm
theorem nR {l:zL} (h:eS [] l=some bs):l=[]∧bs=[]:=by
 cases l with
 |nil=>exact ⟨rfl,(bw h).symm⟩
 |cons _ _=>exact aW h
theorem nP:∀{xs:List Nat} {l:zL} {bs:Lc},eS xs l=some bs→l.length=xs.length
 |[],_,_,h=>by rw [(nR h).1];rfl
 |x::xs,_,_,h=>mF h fun v vs r e h Z=>by rw [e];exact congrArg (·+1) (nP h)
structure yy (w:World) (A:Around) (ev:Env) (W:Wd) (X:Lc→Heap→Prop):Prop where
 st:∀{y:Nat} {ls:Lc} {s:Shared} {d:DV} {v:Value} {Q:Unit→Shared→Prop} {E:zQ},y<j5.length→ev.scope.names.lookup (nm y)=some .local→X ls s.heap→aP W.ρ s.heap d v→(∀B tk,X (aV ls y d) B→aX s.heap B→Q () (sh s B tk))→wpAny (M0 w) A (storeName ev (nm y) v) Q E s
 gr:∀{ls:Lc} {h B:Heap},X ls h→(∀b o,h.get? b=some o→B.get? b=some o)→X ls B
section
variable {w:World} {A:Around} {ev:Env} {W:Wd} {X:Lc→Heap→Prop} {E:zQ} (hh:A.handled=none) (C:yy w A ev W X)
include C
theorem wZ {Q:Unit→Shared→Prop} {xs:List Nat}:∀{es:List Expr} {ds:zL} {vs:zV} {bs ls:Lc} {s:Shared},s7 ev.scope xs es=true→eS xs ds=some bs→aO W.ρ s.heap ds vs→X ls s.heap→
  (∀B tk,X (fc bs ls) B→aX s.heap B→Q () (sh s B tk))→wpAny (M0 w) A (assignInOrder ((assignEach es ev).map (·.2)) vs) Q E s:=by
 induction xs with
 |nil=>intro es ds vs bs ls s t z r S k;rw [bg t];refine aZ (nR z) fun xj iY=>?_;subst xj;subst iY;exact r.bW (assignInOrder_nil (k s.heap s.toks S aX.refl'))
 |cons x xs ih=>intro es ds vs bs ls s t z r S k;refine wL t fun aK p rr he t1 t2=>mF z fun d ds b2 hd hz hb=>?_;subst hd hb;rw [he];refine r.aQ fun v vs r1 r2=>fJ t1 fun u1 u2 j u=>assignInOrder_cons (wpAny_assign_Name (u2▸C.st u1 j S r1 fun B tk S' T'=>?_));exact ih (s:=sh s B tk) t2 hz (r2.mono .refl T') S' fun Z yu S2 T2=>k Z yu S2 (aX.trans T' T2)
include hh
theorem mK {Q:Unit→Shared→Prop} {es:List Expr} {x1:Nat} {pos:Pos} {ds:zL} {ls:Lc} {s:Shared} (t:s7 ev.scope xs es=true) (z:eS xs ds=some bs) (r:aP W.ρ s.heap (.ai ds) v) (S:X ls s.heap)
  (k:∀B tk,X (fc bs ls) B→aX s.heap B→Q () (sh s B tk)):wpAny (M0 w) A (assign (.Tuple es x1 pos) ev v) Q E s:=by
 refine r.b_ fun ax vs ht hr=>aZ (rL (env:=ev) t) fun g1 g2=>assign_Tuple_tuple hh (bD ht) (by rw [g1,←nP z,←hr.length];rfl) g2 fun B he=>?_;have hk:∀b ob,s.heap.get? b=some ob→B.get? b=some ob:=fun b ob e=>he b ob (lM (Heap.lt_size e)) e;have tk:aX s.heap B:=fun x ob Z e=>hk x ob e;exact wZ C (s:={s with heap:=B}) t z (hr.mono .refl tk) (C.gr S hk) fun h3 Be S3 T3=>k h3 Be S3 (aX.trans tk T3)
theorem yM {Q:Unit→Shared→Prop} {e:Expr} {d:DV} {ls H:Lc} {s:Shared} (t:Rn ev.scope xs e=true) (hb:tP xs d ls=some H) (r:aP W.ρ s.heap d v) (S:X ls s.heap)
  (k:∀B tk,X H B→aX s.heap B→Q () (sh s B tk)):wpAny (M0 w) A (assign e ev v) Q E s:=by
 cases xs with
 |nil=>exact nof t
 |cons x xs=>cases xs with
  |nil=>refine au t fun u hu t=>fJ t fun u1 u2 j Z=>?_;rw [aU hu,u2];exact wpAny_assign_Name (C.st u1 j S r ((show aV ls x d=H from bw hb)▸k))
  |cons y xs=>
   refine au t fun u hu t=>?_;rw [iV hu];cases d with
   |ai ds=>
    have hb:(match eS (x::y::xs) ds with|some bs=>some (fc bs ls)|none=>none)=some H:=hb;cases hz:eS (x::y::xs) ds with
    |none=>rw [hz] at hb;exact aW hb
    |some bs=>rw [hz] at hb;exact mK hh C t hz r S ((show fc bs ls=H from bw hb)▸k)
   |_=>exact aW hb
end
section
variable {w:World} {c:Cx} {W:Wd} {σ:ah} {ls:Lc} {s:Shared} {Q E:zQ} {n k:Nat} {h:Heap}
theorem se {y:Nat} {d:DV} {m:Str→Option Value} {B:Heap} (hm:j8 c W ls h m) (M:y<j5.length) (hk:c.ev.scope.names.lookup (nm y)=some .local) (r:aP W.ρ h d v) (t:aX h B):j8 c W (aV ls y d) B (fun z=>if z=nm y then some v else m z):=fun x d' e=>by
 rw [dG] at e;by_cases q:y=x
 ·subst q
  rw [bk rfl] at e;cases e;exact ⟨M,v,⟨fun Z=>bk rfl,fun O=>by have O:c.ev.scope.names.lookup (nm y)=some .cell:=O;rw [hk] at O;exact nomatch O⟩,r.mono .refl t⟩
 ·rw [aS q] at e
  refine iB (hm x d' e) fun a u b c'=>qk a u ⟨fun z=>(aS fun z=>q (gW a M z).symm).trans (b.1 z),b.2⟩ (c'.mono .refl t)
theorem oO {ev:Env} (hk:ev.scope.kind= .function):(ev.scope.kind== .class||(ev.scope.kind== .module&&ev.locals !=ev.globals))=false:=by rw [hk];rfl
theorem Cx.aC.grow {B:Heap} (S:c.aC w W σ ls h) (hk:∀b o,h.get? b=some o→B.get? b=some o):c.aC w W σ ls B:=by refine az S.fr fun m F Z=>S.go (fun Z F=>F.keeps hk) (fun p D=>⟨hk _ _ (S.nw p D).1,(S.nw p D).2⟩) fun x ob Z e=>hk x ob e
theorem iO (o:c.Ok w n) (i:c.ev.locals=c.L) (hml:∀m,c.ml m):yy w c.A c.ev W (c.aC w W σ) where
 st:=fun {y ls s d v Q E} M hk S r q=>by
  refine bQ S.fr fun m F f K hm=>?_;have M3:j8 c W ls s.heap m:=by
   rcases K.2 with ⟨_,rfl⟩|⟨ob,ho,_⟩
   ·exact hm
   ·exact absurd i (S.nw _ (d9 _ ho)).2.1
  have N:=nv S F;refine wpAny_storeName_local hk (i▸F.ns) (fun B J hs=>?_) (oO o.hk);rw [i] at J hs;have F':=F.set J hs;have N':News c.g c.L B (rB c W s.heap):=N.set hs;have t:=jZ F F' fun p D=>N' p (d9 _ D);exact q B _ ⟨⟨_,F',_,⟨hml _,.inl ⟨i,rfl⟩⟩,se M3 M hk r t⟩,fun p D=>N' p (dS _ D),S.jl,S.cells.keep t⟩ t
 gr:=fun S hk=>S.grow hk
theorem w_ {C:Addr} {ex:zA} (hk:c.ev.scope.kind= .function) (Y:c.ev.locals=C) (MN:C≠c.L) (hx:∀p∈ex,p.1≠C):yy w c.A c.ev W (fun ls h=>∃G,({c with ex:=(C,G)::ex}:Cx).aC w W σ ls h) where
 st:=fun {y ls s d v Q E} M K S r q=>by
  refine aA S fun G S=>?_;have z:=S.nw (C,G) (d9 _ (.head _));refine bQ S.fr fun m F f U hm=>?_;have T:LCg.NsObj G f:=by
   rcases U.2 with ⟨e,_⟩|⟨ob,ho,J⟩
   ·exact absurd (Y.symm.trans e) MN
   ·rw [show (({c with ex:=(C,G)::ex}:Cx).ev.locals)=C from Y] at ho
    have:=(S.nw _ (d9 _ ho)).1;cases z.1.symm.trans this;exact J
  have hnt:j9 G:=fun q=>by refine dB T fun es ep e Z=>iC q fun Z vs n e'=>nomatch e.symm.trans e'
  refine wpAny_storeName_local K (Y▸T.ns z.1) (fun B J hs=>?_) (oO hk);rw [Y] at J hs;refine az (LCg.ns_obj J) fun P ho' hn'=>?_;have t:=gF hs z.1 hnt;have N:=kD (c:={c with ex:=(C,G)::ex}) S.nw hs ho' z.2.1 z.2.2;refine q B _ ⟨P,⟨m,jP (c:={c with ex:=(C,G)::ex}) hs z.2.1 z.2.2 m F,_,⟨U.1,.inr ⟨P,Y▸.head _,hn'⟩⟩,se hm M K r t⟩,fun p D=>N p ?_,fun p D q hq=>?_,S.cells.keep t⟩ t
  ·rcases jx D with D|D
   ·exact .tail _ (bG.mpr ⟨dS _ D,fun e=>S.jl (C,G) (.head _) p D e.symm⟩)
   ·rcases dP D with rfl|D
    ·exact .head _
    ·exact .tail _ (bG.mpr ⟨d9 _ (.tail _ D),hx p D⟩)
  ·rcases dP D with rfl|D
   ·exact S.jl (C,G) (.head _) q hq
   ·exact S.jl p (.tail _ D) q hq
 gr:=fun S hk=>let ⟨G,S⟩:=S;⟨G,S.grow hk⟩
theorem Cx.aC.swap {a b:Addr×Obj} {l:zA} (S:({c with ex:=a::b::l}:Cx).aC w W σ ls h):({c with ex:=b::a::l}:Cx).aC w W σ ls h:=by have hm:∀p,p∈b::a::l→p∈a::b::l:=fun p D=>(dP D).elim (fun e=>e▸.tail _ (.head _)) fun z=>(dP z).elim (fun e=>e▸.head _) fun z=> .tail _ (.tail _ z);have hm':∀p,p∈a::b::l→p∈b::a::l:=fun p D=>(dP D).elim (fun e=>e▸.tail _ (.head _)) fun z=>(dP z).elim (fun e=>e▸.head _) fun z=> .tail _ (.tail _ z);refine bQ S.fr fun m F f K hm2=>⟨⟨m,F,f,⟨K.1,K.2.elim .inl fun ⟨o,ho,J⟩=> .inr ⟨o,hm' _ ho,J⟩⟩,hm2⟩,fun p D=>S.nw p ((jx D).elim (dS _) fun z=>d9 _ (hm _ z)),fun p D=>S.jl p (hm _ D),S.cells⟩
set_option backward.match.sparseCases true in
theorem xH {target:Expr} {I:Addr} {ob:Obj} {aK:String} {Q:Unit→Shared→Prop} (ho:s.heap.get? I=some ob) (O:ob.cls= .type aK) (J:aK="list_iterator" ∨aK="tuple_iterator" ∨aK="range_iterator") (V:Q () s):zw w c (letOwnedTupleGo target (.ref I) v) Q E s:=by
 have fin:∀{a:Addr},zw w c (do
   let o←load I;match o.cls,o.data with
   | .type n,.fields vs=>
    if ["enumerate","zip","dict_itemiterator","dict_reverseitemiterator","odict_iterator","itertools.zip_longest","itertools.pairwise"].contains n&&vs[0]?==some (rawInt a) then
     rule "for.unpacks-the-owned-tuple"
     updateField I 0 .none
   |_,_=>pure ()) Q E s:=fun {a}=>by
  refine bP (wpAny_load ho ?_);rw [O];cases ob.data with
  |fields vs=>show wpAny _ _ (if (_&&_)=true then _ else _) _ _ _;rw [show (["enumerate","zip","dict_itemiterator","dict_reverseitemiterator","odict_iterator","itertools.zip_longest","itertools.pairwise"].contains aK)=false by rcases J with rfl|rfl|rfl<;>decide,Bool.false_and,aS Bool.false_ne_true];exact dY V
  |_=>exact dY V
 unfold letOwnedTupleGo;cases target with
 |Tuple _ _ _=>cases v with
  |ref a=>exact fin
  |_=>exact dY V
 |List _ _=>cases v with
  |ref a=>exact fin
  |_=>exact dY V
 |_=>exact dY V
end
end
section
variable {w:World} {c:Cx} {W W1:Wd} {σ C:ah} {M:Lc} {s:Shared} {E:zQ} {n:Nat} {h₀:Heap} {I:Addr} {ds:zL} {g:zO} {fp:List Addr} {P:Nat→Value→Prop} {St:Nat→Heap→Prop} {ev:Env} {ex:zA} {i:Nat}
theorem It.next {Q:Option Value→Shared→Prop} (K:It w c W σ h₀ I ds g fp P St) (hg:c.g.get? I=none) (hL:I≠c.L) (S:({c with ev:=ev,ex:=ex}:Cx).aC w W1 C M s.heap) (hI:∀p∈W1.led++ex,p.1≠I) (V:St i s.heap) (hi:i≤ds.length) (G:Go W σ h₀ W1 C s.heap)
  (kn:∀d v B tk₁ U aK,i<ds.length→ds.drop i=d::ds.drop (i+1)→({c with ev:=ev,ex:=(I,U)::ex}:Cx).aC w W1 C M B→aX s.heap B→aP W1.ρ B d v→St (i+1) B→U.cls= .type aK→(aK="list_iterator" ∨aK="tuple_iterator" ∨aK="range_iterator")→Q (some v) (sh s B tk₁))
  (kd:ds.drop i=[]→∀B tk₁,({c with ev:=ev,ex:=ex}:Cx).aC w W1 C M B→aX s.heap B→Q none (sh s B tk₁)):zw w c (pyNext (.ref I)) Q E s:=by
 refine tY (K.cls i _ V) fun Wj n' M5 MT hn'=>?_;have Wi:Wj.cls≠.type "tuple" :=by rw [MT];rcases hn' with rfl|rfl|rfl<;>decide
 refine bQ S.fr fun m1 F1 Xe hl1 hm1=>?_;have nx:∀B:Heap,(∀b o,b∉[I]→s.heap.get? b=some o→B.get? b=some o)→({c with ev:=ev,ex:=ex}:Cx).aC w W1 C M B∧aX s.heap B:=fun B H=>by have hk:∀b o,b≠I→s.heap.get? b=some o→B.get? b=some o:=fun b o hb=>H b o fun z=>hb (nW z);have t:aX s.heap B:=fun x ob hc e=>hk x ob (fun q=>by rw [q,M5] at e;cases e;exact Wi hc.1) e;exact ⟨S.go (fun m F=>⟨F.ns.at' fun o e=>hk _ o (fun q=>hL q.symm) e,fun b o e=>hk b o (fun q=>by rw [q] at e;exact nomatch hg.symm.trans e) (F.keep b o e),F.above⟩) (fun p D=>⟨hk _ _ (hI p D) (S.nw p D).1,(S.nw p D).2⟩) t,t⟩
 by_cases N:i<ds.length
 ·refine K.wk.item i _ _ _ N V fun v B tk₁ hPv R H=>aZ (nx B H) fun J O=>tY (K.cls (i+1) B R) fun U aK U4 MR hn=>kn ds[i] v B tk₁ U aK N (List.drop_eq_getElem_cons N) ⟨let ⟨m,F,m',hl,hm⟩:=J.fr;⟨m,F,m',Cx.Loc.more (c:={c with ev:=ev,ex:=ex}) hl fun p D=> .tail _ D,hm⟩,fun p D=>?_,fun p D q hq=>?_,J.cells⟩ O (K.rel i v ds[i] W1 B hPv (tD N) G.e.le (aX.trans G.t O)) R MR hn
  ·rcases jx D with D|D
   ·exact J.nw p (dS _ D)
   ·rcases dP D with rfl|D
    ·exact eo U4 hL hg
    ·exact J.nw p (d9 _ D)
  ·rcases dP D with rfl|D
   ·exact fun e=>hI q (dS _ hq) e.symm
   ·exact J.jl p D q hq
 ·have hin:i=ds.length:=Nat.le_antisymm hi (je N)
  subst hin;refine K.wk.done _ _ _ V fun B tk₁ H=>aZ (nx B H) fun J O=>kd List.drop_length B tk₁ J O
theorem It.back {c1 c2:Cx} {l:Wd} {Z:ah} {l3:Lc} {h1 Y:Heap} {U:Obj} (K:It w c W σ h₀ I ds g fp P St) (S1:c1.aC w W1 C M h1) (m1:(I,U)∈c1.ex) (S3:c2.aC w l Z l3 Y) (m3:(I,U)∈c2.ex) (V:St i h1) (G1:Go W σ h₀ W1 C h1) (G3:Go W1 C h1 l Z Y) (v1:eW C g=true) (v3:eW Z g=true):St i Y:=by
 refine K.wk.frame _ _ _ V fun b hb ob e=>?_;by_cases RN:b=I
 ·subst RN
  cases (S1.nw (b,U) (d9 _ m1)).1.symm.trans e;exact (S3.nw (b,U) (d9 _ m3)).1
 ·exact K.keep S1 S3 G1 G3 v1 v3 b hb RN ob e
theorem Go.cQ {h X:Heap} (t:aX h X):Go W σ h W σ X:=⟨.refl,t⟩
inductive DF (w:World) (c:Cx) (I:Addr) (W:Wd) (σ:ah) (s:Shared) (St:Nat→Heap→Prop) (y:Nat) (g:zO) (body:List Stmt) (Ψ:Fl→ah→Lc→Prop) (ds:zL) (j:Nat) (s':Shared):Prop
 |mk (X:Heap) (tk:Nat) (W1:Wd) (C:ah) (M:Lc) (i:Nat):s'=(sh s X tk)→St i X→c.aC w W1 C M X→(∀p∈W1.led++c.ex,p.1≠I)→eW C g=true→mG w c y g body Ψ (ds.drop i) C M→Go W σ s.heap W1 C X→i≤ds.length→j=ds.length+1 -i→DF w c I W σ s St y g body Ψ ds j s'
theorem A6 {Q:Flow→Shared→Prop} {ls:Lc} {y:Nat} {u:Str×Pos} {body:List Stmt} {Ψ:Fl→ah→Lc→Prop} (K:It w c W σ s.heap I ds g fp P St) (o:c.Ok w n) (RM:c.ev.locals=c.L) (hml:∀m,c.ml m) (ty:gE c.ev.scope y u.1=true) (hg:c.g.get? I=none) (hL:I≠c.L) (S:c.aC w W σ ls s.heap) (hI:∀p∈W.led++c.ex,p.1≠I) (hv:eW σ g=true) (T:mG w c y g body Ψ ds σ ls)
  (k:∀fl σ' BF,Ψ fl σ' BF→KS w c W σ s Q fl σ' BF):codeAny (M0 w) c.A (.forLoop (.Name u.1 u.2) (.ref I) body [] c.ev) (fun r s'=>match r with| .ok f=>Q f s'| .error e=>cameBackBy (M0 w) c.A c.ev E e s') s:=by
 refine codeAny_forLoop (DF w c I W σ s St y g body Ψ ds) (fun j s' hJ=>?_) (ds.length+1)
  ⟨s.heap,s.toks,W,σ,ls,0,rfl,K.st,S,hI,hv,T,.refl,Nat.zero_le _,rfl⟩
 obtain ⟨X,tk,W1,C,M,i,rfl,Fg,S1,MO,hv1,T1,G1,hi,rfl⟩:=hJ;refine K.next (ev:=c.ev) (ex:=c.ex) (s:=sh s X tk) hg hL S1 MO Fg hi G1 (fun d v B tk₁ U aK N hd S2 t2 rv Co Z Z=>?_) fun hd B tk₁ S2 t2=>?_
 ·rw [hd] at T1
  refine fJ ty fun u1 u2 u3 Z=>wpAny_assign_Name (u2▸(iO (c:={c with ex:=(I,U)::c.ex}) o.ex RM hml).st (s:=sh s B tk₁) u1 u3 S2 rv fun h2 yu S3 t3=>?_);refine T1 ((I,U)::c.ex) W1 (sh s h2 yu) _ _ S3 fun fl a Ae hf l Y Be f' S4 G4 r4=>?_;have S5:c.aC w l a Ae Y:=Cx.aC.jk (c:=c) S4 fun e=>hL (e.symm.trans RM);have G5:Go W1 C B l a Y:=(Go.cQ t3).trans G4;cases fl with
  |next=>cases (show f'= .next from r4);refine ⟨ds.length+1 -(i+1),by exact QG N,Y,Be,l,a,Ae,i+1,rfl,K.back S2 (.head _) S4 (.head _) Co (G1.trans (.cQ t2)) G5 hv1 hf.1,S5,fun p D=>?_,hf.1,hf.2,G1.trans ((Go.cQ t2).trans G5),N,rfl⟩;exact (jx D).elim (fun D e=>S4.jl _ (.head _) p D e.symm) fun D=>hI p (d9 _ D)
  |ret dv=>have:=k _ _ _ hf l Y Be f' S5 (G1.trans ((Go.cQ t2).trans G5)) r4;refine az r4 fun v' iY Z=>?_;subst iY;exact this
 ·rw [hd] at T1
  exact wpAny_execs_nil (k _ _ _ T1 W1 B tk₁ .next S2 (G1.trans (.cQ t2)) rfl)
end
section
variable {scope sc:Scope}
section
variable {w:World} {A:Around} {R:Result→Shared→Prop} {s:Shared}
theorem xd {elt target iter:Expr} {ifs:List Expr} {pos:Pos} {it acc:Value} {env:Env} (I:Nat→Shared→Prop)
  (turn:∀n s,I n s→wpAny (M0 w) A (pyNext it) (fun r s₁=>match r with
   |none=>R (.ok .next) s₁
   |some v=>wpAny (M0 w) A (letOwnedTupleGo target it v) (fun Z s₁'=>wpAny (M0 w) A (assign target env v) (fun Z s₂=>wpAny (M0 w) A (forIn ifs true fun c r=>if r=true then do let ok←isTrue c env (eval c env);pure (ForInStep.yield ok) else pure (ForInStep.yield r)) (fun ok s₃=>if ok=true then wpAny (M0 w) A (eval elt env) (fun x u=>wpAny (M0 w) A (call (.builtin "list.append") [acc,x]) (fun Z s₅=>∃m,m<n∧I m s₅) (notedBy (M0 w) A env fun e Y=>R (.error e) Y) u) (notedBy (M0 w) A env fun e Y=>R (.error e) Y) s₃
      else ∃m,m<n∧I m s₃) (notedBy (M0 w) A env fun e Y=>R (.error e) Y) s₂) (notedBy (M0 w) A env fun e Y=>R (.error e) Y) s₁') (notedBy (M0 w) A env fun e Y=>R (.error e) Y) s₁) (notedBy (M0 w) A env fun e Y=>R (.error e) Y) s)
  (n:Nat) (h:I n s):codeAny (M0 w) A (.compLoop (.ListComp elt [⟨target,iter,ifs,0⟩] scope pos) 0 it acc env) R s:=by
 refine codeAny_loop rfl I (fun n s hI=>?_) n h;show wpAny _ A ((compTurn (.ListComp elt [⟨target,iter,ifs,0⟩] scope pos) 0 it acc env).onRaise (fun x=>do noteFrame x env;theTreesLotGoes x)) _ _ s;refine wpAny_noted ?_;rw [compTurn_list];refine bP (wpAny_standAt (bP (wpAny_mono (turn n s hI) (fun r s₁ B=>?_) fun Z Z G=>G)));cases r with
 |none=>exact dY B
 |some v=>
  refine bP (wpAny_mono B (fun Z s₁' h₁'=>?_) fun Z Z G=>G);refine bP (wpAny_mono h₁' (fun Z s₂ h₂=>bP (wpAny_mono h₂ (fun ok s₃ h₃=>?_) fun Z Z G=>G)) fun Z Z G=>G);cases ok with
  |false=>exact dY ⟨rfl,h₃⟩
  |true=>exact bP (bP (wpAny_mono h₃ (fun x u h₄=>bP (wpAny_mono h₄ (fun Z s₅ h₅=>dY (dY ⟨rfl,h₅⟩)) fun Z Z G=>G)) fun Z Z G=>G))
end
theorem rE {env:Env} (h:∀p∈scope.names,p.2= .free→∃a,env.cells.lookup p.1=some a):∃cl,closureFor scope env=pure cl∧(∀n a,cl.lookup n=some a→env.cells.lookup n=some a)∧∀p∈scope.names,p.2= .free→∃a,cl.lookup p.1=some a:=by
 unfold closureFor;have go:∀(l:List (Str×NameKind)) (cs:List (Str×Addr)),(∀p∈l,p.2= .free→∃a,env.cells.lookup p.1=some a)→(∀n a,cs.lookup n=some a→env.cells.lookup n=some a)→
   ∃cl,(forIn l cs fun x cs=>(match x with|(name,kind)=>do if (kind==NameKind.free)=true then do let a←cellOf env name;pure (ForInStep.yield ((name,a)::cs)) else pure (ForInStep.yield cs):Sem (ForInStep (List (Str×Addr)))))=pure cl∧(∀n a,cl.lookup n=some a→env.cells.lookup n=some a)∧(∀p∈l,p.2= .free→∃a,cl.lookup p.1=some a)∧∀n a,cs.lookup n=some a→∃a,cl.lookup n=some a:=by
  intro l;induction l with
  |nil=>exact fun cs Z hc=>⟨cs,rfl,hc,fun Z h=>(nomatch h),fun n a e=>⟨a,e⟩⟩
  |cons p l ih=>
   intro cs hl hc;obtain ⟨aK,kd⟩:=p;rw [List.forIn_cons];by_cases hk:kd= .free
   ·subst hk
    refine aA (hl _ (.head _) rfl) fun a ha=>?_;have ha:env.cells.lookup aK=some a:=ha;have hc2:∀n a',((aK,a)::cs).lookup n=some a'→env.cells.lookup n=some a':=fun n a' e=>by
     rw [List.lookup_cons] at e;cases q:n==aK with
     |true=>rw [q] at e;cases e;rw [eq_of_beq q];exact ha
     |false=>rw [q] at e;exact hc n a' e
    refine jH (ih ((aK,a)::cs) (fun p O=>hl p (.tail _ O)) hc2) fun cl e1 e2 e3 e4=>?_;have hnew:∃a,cl.lookup aK=some a:=e4 aK a (by rw [List.lookup_cons,beq_self_eq_true]);refine zM cl ?_ e2 (fun p O hf=>(dP O).elim (fun z=>z▸hnew) fun z=>e3 p z hf) (fun n a' e=>?_)
    ·simp only [beq_self_eq_true,if_true,show cellOf env aK=pure a by delta cellOf;rw [ha],pure_bind]
     exact e1
    ·by_cases q:n=aK
     ·rw [q];exact hnew
     ·exact e4 n a' (by rw [List.lookup_cons,beq_eq_false_iff_ne.mpr q];exact e)
   ·refine jH (ih cs (fun p O=>hl p (.tail _ O)) hc) fun cl e1 e2 e3 e4=>?_
    refine zM cl ?_ e2 (fun p O hf=>(dP O).elim (fun z=>by subst z;exact absurd hf hk) fun z=>e3 p z hf) e4;simp only [beq_eq_false_iff_ne.mpr hk,Bool.false_eq_true,if_false,pure_bind];exact e1
 refine jH (go scope.names [] h (fun Z Z e=>nomatch e)) fun cl e1 e2 e3 Z=>?_;have e5:(forIn scope.names ([]:List (Str×Addr)) (fun x cs=>(match x with|(name,kind)=>do if (kind==NameKind.free)=true then do let a←cellOf env name;pure (ForInStep.yield ((name,a)::cs)) else pure (ForInStep.yield cs):Sem (ForInStep (List (Str×Addr)))))>>=fun cs=>pure cs)=pure cl:=by rw [e1];rfl
 exact n6 cl e5 e2 e3
theorem lq {x:Str}:(uE scope sc).names.lookup x=(scope.names.lookup x).map fun k=>if (k== .free&&sc.kind== .function&&sc.names.lookup x==some .cell) then .cell else k:=by
 unfold uE;show (scope.names.map _).lookup x=_;induction scope.names with
 |nil=>rfl
 |cons p l ih=>
  obtain ⟨aK,kd⟩:=p;have e:(if (kd==NameKind.free&&sc.kind== .function&&sc.names.lookup aK==some .cell)=true then (aK,NameKind.cell) else (aK,kd))=(aK,if (kd==NameKind.free&&sc.kind== .function&&sc.names.lookup aK==some .cell)=true then NameKind.cell else kd):=by split<;>rfl
  rw [List.map_cons];show List.lookup x ((if (kd==NameKind.free&&sc.kind== .function&&sc.names.lookup aK==some .cell)=true then (aK,NameKind.cell) else (aK,kd))::_)=_;rw [e,List.lookup_cons,List.lookup_cons];cases q:x==aK with
  |true=>rw [eq_of_beq q];rfl
  |false=>exact ih
theorem Az {fv:List Nat}:∀{ls l0:Lc},pick fv ls=some l0→(∀x d,aF l0 x=some d→x∈fv∧aF ls x=some d)∧∀x∈fv,∃d,aF ls x=some d:=by
 induction fv with
 |nil=>intro Z Z e;cases e;exact ⟨fun Z Z h=>(nomatch h),fun Z h=>(nomatch h)⟩
 |cons y fv ih=>
  intro ls l0 e;have e:(match aF ls y with|some d=>(match pick fv ls with|some r=>some ((y,d)::r)|none=>none)|none=>none)=some l0:=e;cases hy:aF ls y with
  |none=>rw [hy] at e;exact aW e
  |some d=>
   cases hr:pick fv ls with
   |none=>rw [hy,hr] at e;exact aW e
   |some r=>
    rw [hy,hr] at e;cases e;refine aZ (ih hr) fun h1 h2=>⟨fun x d' h=>?_,fun x hx=>(dP hx).elim (fun z=>z▸⟨d,hy⟩) fun z=>h2 x z⟩
    rw [b6] at h;by_cases q:y=x
    ·subst q;rw [bk rfl] at h;cases h;exact ⟨.head _,hy⟩
    ·rw [aS q] at h;exact ⟨.tail _ (h1 x d' h).1,(h1 x d' h).2⟩
theorem lookup_mem {x:Str} {k:NameKind}:∀{l:List (Str×NameKind)},l.lookup x=some k→(x,k)∈l
 |[],h=>nomatch h
 |(n,k')::l,h=>by
  rw [List.lookup_cons] at h;cases q:x==n with
  |true=>rw [q] at h;cases h;rw [eq_of_beq q];exact .head _
  |false=>rw [q] at h;exact .tail _ (lookup_mem h)
theorem mT {fv:List Nat} {R:Prop} (t:pS sc scope fv=true) (f:scope.kind= .function→(∀y∈scope.names,y.2≠.cell)→(∀y∈scope.names,y.2= .local→scope.names.lookup y.1=some .local)→(∀y∈scope.names,y.2= .free→sc.names.lookup y.1=some .cell∧∃x∈fv,nm x=y.1)→(∀x∈fv,scope.names.lookup (nm x)=some .free)→R):R:=
 af t fun t1 t=>af t fun t2 t3=>by
  have t2:=gh t2;refine f (dR t1) (fun y hy=>?_) (fun y hy hl=>?_) (fun y hy hf=>?_) fun x hx=>dR (gh t3 x hx)
  ·exact af (t2 y hy) fun a Z=>of_decide_eq_false (bu a)
  ·refine af (t2 y hy) fun Z t=>af t fun a Z=>dR ?_
   rw [gH hl] at a;exact a
  ·refine af (t2 y hy) fun Z t=>af t fun Z a=>?_
   rw [gH hf] at a;refine af (show (decide (sc.names.lookup y.1=some .cell)&&fv.any fun z=>decide (nm z=y.1))=true from a) fun a1 a2=>⟨dR a1,?_⟩
   refine az (List.any_eq_true.mp a2) fun x hx e=>cJ x hx (dR e)
theorem Bg {fv:List Nat} (t:pS sc scope fv=true) (h:oU (uE scope sc)=true):oU sc=true:=
 mT t fun Z b2 Z b4 Z=>by
  have h:=dR h;rw [lq] at h;refine gH ?_;cases e:scope.names.lookup (Str.ofString "one") with
  |none=>rw [e] at h;exact nomatch h
  |some k=>
   rw [e] at h;have hm:=lookup_mem e;by_cases q:k= .free
   ·exact (b4 _ hm q).1
   ·have h:(if (k== .free&&sc.kind== .function&&sc.names.lookup (Str.ofString "one")==some .cell)=true then NameKind.cell else k)= .cell:=bw h
    rw [show (k== .free)=false from beq_eq_false_iff_ne.mpr q] at h;exact absurd h (b2 _ hm)
section
variable {w:World} {c:Cx} {W:Wd} {σ:ah} {ls:Lc} {s:Shared} {Q E:zQ} {n k:Nat} {q:zT} {z:Bool} {av:Nat} {x:Expr} {rx:Bool→Nat→zT} {Φ:zP} {h:Heap}
theorem Cx.aC.perm {l l':zA} (S:({c with ex:=l}:Cx).aC w W σ ls h) (hm:∀p,p∈l'↔p∈l):({c with ex:=l'}:Cx).aC w W σ ls h:=by refine bQ S.fr fun m F m' hl hm2=>⟨⟨m,F,m',⟨hl.1,hl.2.elim .inl fun ⟨o,ho,hn⟩=> .inr ⟨o,(hm _).mpr ho,hn⟩⟩,hm2⟩,fun p O=>S.nw p ((jx O).elim (dS _) fun z=>d9 _ ((hm _).mp z)),fun p O=>S.jl p ((hm _).mp O),S.cells⟩
theorem Cx.aC.but {C:Addr} {oC:Obj} {G:Heap} (S:c.aC w W σ ls h) (hs:Heap.SameBut C h G) (hC:∀p∈W.led++c.ex,p.1≠C) (hL:C≠c.L) (hg:c.g.get? C=none) (ho:h.get? C=some oC) (hn:j9 oC):c.aC w W σ ls G∧aX h G:=
 ⟨S.go (jP hs hL hg) (fun p O=>⟨(hs.2 p.1 (hC p O)).trans (S.nw p O).1,(S.nw p O).2⟩) (gF hs ho hn),gF hs ho hn⟩
theorem nB {o:Obj} {m:Str→Option Value} (h:LCg.NsObj o m):j9 o:=fun q=>by refine dB h fun es ep e Z=>iC q fun Z vs n e'=>nomatch e.symm.trans e'
theorem gU {a:Addr×Obj} {l:zA} {I:Addr} (h:a.1≠I) (t:∀p∈l,p.1≠I):∀p∈a::l,p.1≠I:=List.forall_mem_cons.mpr ⟨h,t⟩
inductive uT (w:World) (c:Cx) (cc:Cx→Prop) (C D I:Addr) (W:Wd) (σ:ah) (s:Shared) (St:Nat→Heap→Prop) (xs:List Nat) (g:zO) (elt:Expr) (ifs:List Expr) (Ψ:List DV→ah→Prop) (ds:zL) (j:Nat) (Y:Shared):Prop
 |mk (G:Heap) (tk:Nat) (W2:Wd) (U:ah) (Ae:Lc) (oC:Obj) (vs:zV) (mm:Nat) (H:zL) (i:Nat):Y=(sh s G tk)→St i G→({c with ex:=(C,oC)::(D,bV vs mm)::c.ex}:Cx).aC w W2 U Ae G→(∀p∈W2.led,p.1≠I)→eW U g=true→aO W2.ρ G H vs→iu w cc xs g elt ifs (fun more σ=>Ψ (H++more) σ) (ds.drop i) U Ae→Go W σ s.heap W2 U G→i≤ds.length→vs.length≤i→j=ds.length+1 -i→uT w c cc C D I W σ s St xs g elt ifs Ψ ds j Y
theorem tU {C D I:Addr} {xs:List Nat} {g:zO} {elt target iter:Expr} {ifs:List Expr} {Ψ:List DV→ah→Prop} {ds:zL} {fp:List Addr} {P:Nat→Value→Prop} {St:Nat→Heap→Prop} {R:Result→Shared→Prop} {pos:Pos}
  (K:It w c W σ s.heap I ds g fp P St) (hk:c.ev.scope.kind= .function) (hC:c.ev.locals=C) (IQ:c.g.get? I=none) (hIL:I≠c.L) (hDC:D≠C) (HB:C≠I) (hDI:D≠I) (Vf:∀p∈c.ex,p.1≠I) (hxC:∀p∈c.ex,p.1≠C) (Ln:∀p∈c.ex,p.1≠D) (hds:ds.length≤5000)
  (t2:Rn c.ev.scope xs target=true) {mc:Option ME} {qq:ME→Expr→Bool} (t5:Du qq mc ifs=true)
  (fin:∀G tk W2 U Ae oC vs mm H,({c with ex:=(C,oC)::(D,bV vs mm)::c.ex}:Cx).aC w W2 U Ae G→Go W σ s.heap W2 U G→aO W2.ρ G H vs→Ψ H U→R (.ok .next) (sh s G tk))
  {j:Nat} (J:uT w c (·=c) C D I W σ s St xs g elt ifs Ψ ds j s):codeAny (M0 w) c.A (.compLoop (.ListComp elt [⟨target,iter,ifs,0⟩] scope pos) 0 (.ref I) (.ref D) c.ev) R s:=by
 refine xd (uT w c (·=c) C D I W σ s St xs g elt ifs Ψ ds) (fun j Y hJ=>?_) j J;obtain ⟨G,tk,W1,M,Lu,oC,vs,mm,H,i,rfl,Fg,S1,MO,hv1,hr,T1,G1,hi,Nd,rfl⟩:=hJ;have UH:∀p∈W1.led++(C,oC)::(D,bV vs mm)::c.ex,p.1≠I:=fun p O=>(jx O).elim (MO p) (gU (a:=(C,oC)) HB (gU (a:=(D,bV vs mm)) hDI Vf) p);have MN:C≠c.L:=(S1.nw (C,oC) (d9 _ (.head _))).2.1;refine K.next (ev:=c.ev) (ex:=(C,oC)::(D,bV vs mm)::c.ex) (s:=sh s G tk) IQ hIL S1 UH Fg hi G1 (fun d v B tk₁ oI aK hlt hd S2 HH rv Co MR hnI=>?_) fun hd B tk₁ S2 HH=>?_
 ·rw [hd] at T1
  refine az T1 fun Z hb T1=>?_;have G2:Go W σ s.heap W1 M B:=G1.trans (.cQ HH);refine xH (s:=sh s B tk₁) (S2.nw (I,oI) (d9 _ (.head _))).1 MR hnI ?_;have Nf:∀p∈(I,oI)::(D,bV vs mm)::c.ex,p.1≠C:=gU HB.symm (gU hDC hxC);refine yM (s:=sh s B tk₁) rfl (w_ (c:=c) (σ:=M) (C:=C) (ex:=(I,oI)::(D,bV vs mm)::c.ex) hk hC MN Nf) t2 hb rv ⟨oC,S2.swap⟩ fun h3 Be S3 t3=>aA S3 fun V S3=>?_;have G3:Go W1 M B W1 M h3:= .cQ t3;have el:∀(LJ:ah) (Wa:Wd) (ha:Heap) (Rm:Nat),({c with ex:=(C,V)::(I,oI)::(D,bV vs mm)::c.ex}:Cx).aC w Wa LJ Z ha→Go W1 M B Wa LJ ha→(pI w c elt LJ Z fun v σ₂=>eW σ₂ g=true∧iu w (·=c) xs g elt ifs (fun vs σ=>Ψ (H++(v::vs)) σ) (ds.drop (i+1)) σ₂ Z)→∀E':Value→Shared→Prop,
    zw w c (eval elt c.ev) (fun x u=>zw w c (call (.builtin "list.append") [.ref D,x]) (fun f s₅=>∃m,m<ds.length+1 -i∧uT w c (·=c) C D I W σ s St xs g elt ifs Ψ ds m s₅) E' u) E' (sh s ha Rm):=fun LJ Wa ha Rm Sa Ga ok E'=>by
   refine ok _ Wa (sh s ha Rm) _ _ Sa fun dv T X Wb hb' LG vb Sb Gb rb=>?_;have hD:=Sb.nw (D,bV vs mm) (d9 _ (.tail _ (.tail _ (.head _))));have hline:=g_;refine append_at (s:=sh s hb' LG) hD.1 (fun h5 Na U0=>?_) (by rw [List.size_toArray];exact VP hline hlt hds Nd);have Sp:({c with ex:=(D,bV vs mm)::(C,V)::(I,oI)::c.ex}:Cx).aC w Wb T Z hb':=Cx.aC.perm (c:=c) Sb fun p=>(List.perm_middle (l₁:=[(C,V),(I,oI)])).mem_iff.symm;have Ve:∀p∈(C,V)::(I,oI)::c.ex,p.1≠D:=gU hDC.symm (gU hDI.symm Ln);refine aZ (Cx.aC.oN (c:=c) (od':=bV (vs++[vb]) (mm+1)) Sp Ve (fun e=>hDC (e.symm.trans hC)) Na (U0.trans (by simp)) (fun q=>absurd (show Value.type "list" = .type "tuple" from q.1) aD)) fun Sc Gc=>?_;have Sd:({c with ex:=(I,oI)::(C,V)::(D,bV (vs++[vb]) (mm+1))::c.ex}:Cx).aC w Wb T Z h5:=Cx.aC.perm (c:=c) Sc fun p=>((List.perm_middle (l₁:=[(D,bV (vs++[vb]) (mm+1)),(C,V)])).trans (.cons _ (.swap _ _ _))).mem_iff.symm;have Se:=Cx.aC.jk (c:=c) Sd fun e=>HB (hC.symm.trans e);have N:Go W1 M B Wb T h5:=Ga.trans (Gb.trans Gc);refine ⟨ds.length+1 -(i+1),by exact QG hlt,h5,_,Wb,T,Z,V,vs++[vb],mm+1,H++[dv],i+1,rfl,K.back S2 (.head _) Sd (.head _) Co G2 N hv1 X.1,Se,fun p O e=>Sd.jl _ (.head _) p O e.symm,X.1,aO.append (.cons (rb.go Gc) .nil) (hr.go ((Go.cQ (W:=W1) (σ:=M) HH).trans N)),?_,G2.trans N,hlt,by rw [fO];exact Nat.succ_le_succ Nd,rfl⟩;have e:(fun more σ=>Ψ (H++[dv]++more) σ)=fun more σ=>Ψ (H++(dv::more)) σ:=by funext more σ;rw [List.append_assoc];rfl
   rw [e];exact X.2
  cases mc with
  |none=>rw [bg t5] at T1 el⊢;refine wpAny_tests_nil ?_;rw [bk rfl];exact el M W1 h3 Be S3 G3 (T1 c rfl) _
  |some m=>
   refine au t5 fun e he t5=>?_;rw [cO he] at T1 el⊢;refine wpAny_tests_one (T1 c rfl _ W1 (sh s h3 Be) _ _ S3 fun b T X Wb hb' LG Sb Gb=>?_);cases b with
   |true=>rw [bk rfl];exact el T Wb hb' LG Sb (G3.trans Gb) (X.2 c rfl) _
   |false=>rw [aS Bool.false_ne_true];have Sd:=Cx.aC.swap (c:=c) Sb;have Se:=Cx.aC.jk (c:=c) Sd fun e=>HB (hC.symm.trans e);have N:Go W1 M B Wb T hb':=G3.trans Gb;exact ⟨ds.length+1 -(i+1),by exact QG hlt,hb',LG,Wb,T,Z,V,vs,mm,H,i+1,rfl,K.back S2 (.head _) Sd (.head _) Co G2 N hv1 X.1,Se,fun p O e=>Sd.jl _ (.head _) p O e.symm,X.1,hr.go ((Go.cQ (W:=W1) (σ:=M) HH).trans N),X.2,G2.trans N,hlt,Nat.le_succ_of_le Nd,rfl⟩
 ·rw [hd] at T1
  have T1:Ψ (H++[]) M:=T1;rw [List.append_nil] at T1;exact fin B tk₁ W1 M Lu oC vs mm H S2 (G1.trans (.cQ HH)) (hr.mono .refl HH) T1
end
end
section
variable {xs:List Nat}
theorem Fv {α:Type} {p:Prop} [Decidable p] {a b c:α} {R:Prop} (h1:a=c→R) (D:b=c→R) (h:(if p then a else b)=c):R:=by
 by_cases q:p
 ·rw [bk q] at h;exact h1 h
 ·rw [aS q] at h;exact D h
section
variable {w:World} {c:Cx} {W:Wd} {σ:ah} {ls:Lc} {s:Shared} {Q E:zQ} {n k:Nat} {q:zT} {z:Bool} {av:Nat} {x:Expr} {rx:Bool→Nat→zT} {Z:zP} {h:Heap}
theorem yS {R:Prop} {d:DV} {K:Lc→RR} (p:ao Z (DM xs d ls K)) (f:∀J,tP xs d ls=some J→ao Z (K J)→R):R:=by
 cases xs with
 |nil=>exact p.elim
 |cons x xs=>cases xs with
  |nil=>have p:ao Z (c_ ls x d K):=p;rw [cU] at p;exact f _ rfl p
  |cons y xs=>cases d with
   |ai ds=>
    have p:ao Z (match eS (x::y::xs) ds with|some bs=>putAll bs ls K|none=> .no):=p;cases hz:eS (x::y::xs) ds with
    |none=>rw [hz] at p;exact p.elim
    |some bs=>rw [hz] at p;have p:ao Z (putAll bs ls K):=p;rw [kH] at p;refine f (fc bs ls) ?_ p;show (match eS (x::y::xs) ds with|some bs=>some (fc bs ls)|none=>none)=_;rw [hz]
   |_=>exact p.elim
theorem GJ (H:ic w n q) {sc:Scope} {cc:Cx→Prop} {g:zO} {ds:zL} {m:ME} {mc:Option ME} {ifs:List Expr} {Ψ:List DV→ah→Prop} (hcc:∀c,cc c→c.Ok w n∧c.ev.scope=sc) (t:cD (zk w) k sc m x=true) (tc:Du (cD (zk w) k sc) mc ifs=true) (p:ao (LO Ψ) (step PG z av q rx (.cp xs g ds m mc) σ ls)):iu w cc xs g x ifs Ψ ds σ ls:=by
 have el:∀{Ψ:List DV→ah→Prop} {ds:zL} {σ:ah} {J:Lc},ao (LO Ψ) (bv (q (.e m) σ J) fun v σ=>nN z σ g (g6 (q (.cp xs g ds m mc) σ J) fun vs σ=> .ok (.vs (v::vs)) σ J))→∀c,cc c→pI w c x σ J fun v B=>eW B g=true∧iu w cc xs g x ifs (fun vs σ=>Ψ (v::vs) σ) ds B J:=fun p c hc ex W s Q E S kk=>by
  refine aZ (hcc c hc) fun o hsc=>H.e (c:={c with ex:=ex}) o.ex (hsc▸t) S (p.bind.mono fun rs B Z N=>?_);cases rs with
  |v d=>
   refine mD N fun hv N=>kk d B ⟨hv,H.cp hcc t tc (N.bind.mono fun rs σ₃ Z z3=>?_)⟩;cases rs with
   |vs vs=>exact z3
   |_=>exact z3.elim
  |_=>exact N.elim
 cases ds with
 |nil=>exact p
 |cons d ds=>
  refine yS p fun J hb p=>⟨J,hb,?_⟩
  cases mc with
  |none=>rw [bg tc] at el⊢;exact el p
  |some mq=>
   refine au tc fun e he te=>?_;rw [cO he] at el tc⊢;intro c hc ex W s Q E S kk;refine aZ (hcc c hc) fun o hsc=>H.b (c:={c with ex:=ex}) o.ex (hsc▸te) S (p.bind.mono fun rs B Z N=>?_);cases rs with
   |b b=>cases b with
    |true=>exact mD N fun hv N=>kk true B ⟨hv,el N⟩
    |false=>exact mD N fun hv N=>kk false B ⟨hv,H.cp hcc t tc N⟩
   |_=>exact N.elim
variable (H:ic w n q) (o:c.Ok w n) (S:c.aC w W σ ls s.heap)
include H o S
theorem pg {use:Option (Value→Sem Unit)} {kk:DV→ah→RR} {elt:ME} {ig:Bool} {it:ME} {cond:Option ME} {fv:List Nat} (t:kP (zk w) (cD (zk w) k) c.ev.scope (.comp xs elt ig it cond fv) x=true) (p:ao Z (yX z av q xs elt ig it cond fv σ ls kk))
  (fin:∀dv M W' C Y X tk v m',({c with ex:=(C,Y)::c.ex}:Cx).aC w W' M ls X→(∀p∈c.ex,p.1≠C)→c.ev.locals≠C→LCg.NsObj Y m'→Go W σ s.heap W' M X→aP W'.ρ X dv v→ao Z (kk dv M)→compPost (M0 w) c.A E use Q v C (.ok .next) (sh s X tk)):
  ∃el gens sc pos,x= .ListComp el gens sc pos∧zw w c (comprehension (.ListComp el gens sc pos) sc c.ev (firstIterPos gens pos) (newList []) (firstAsync gens) (firstIter gens c.ev) use) Q E s:=
 au t fun u hu t=>au t fun gg UR t=>af t fun t0 t=>af t fun t1 t=>af t fun t2 t=>af t fun t3 t=>af t fun t4 t5=>mT t1 fun b1 b2 b3 b4 b5=>eT p fun l0 UU p=>by
  have e:=fj hu;obtain ⟨tg,it',ifs,Vl⟩:=gg;have t0:Vl=0:=dR t0;subst t0;rw [cO UR] at e;refine ⟨_,_,_,_,e,?_⟩;refine aZ (Az UU) fun hp1 hp2=>bQ S.fr fun m₀ R R R I3=>?_;have Ff:∀p∈u.2.2.1.names,p.2= .free→∃a,c.ev.cells.lookup p.1=some a:=fun p L hf=>by refine iB (b4 p L hf) fun hc x hx e=>aA (hp2 x hx) fun d hd=>iB (I3 x d hd) fun R v hv R=>az (hv.2 (by rw [e];exact hc)) fun a ha R=>⟨a,e▸ha⟩
  refine iZ (rE Ff) fun cl hcl MU MV=>wpAny_comprehension_free rfl (fun v=>sZ t3 v) hcl b1 b3 ?_;refine A4 H o S t3 p fun U W1 h1 bO S1 g1=>?_;intro g ds I D yu fp P St K S2 g2 hI IQ hIL E_ hv hds p;refine wpAny_newObj_type (wpAny_newFunctionEnv b2 (fun y hy=>nomatch hy) (fun h3 hns Lm=>?_) b1);refine bQ S2.fr fun m F m' hl hm=>aZ (S2.vG (od:=bV [] 0) rfl) fun S3 g3=>aZ (S3.vG (od:=fz) rfl) fun S4 g4=>az (LCg.ns_obj hns) fun Y U3 UZ=>?_;have hDC:D.objs.size≠(D.push (bV [] 0)).objs.size:=by rw [Heap.size_push];exact lM (Nat.lt_succ_self _)
  have hx:∀p∈(D.objs.size,bV [] 0)::c.ex,p.1≠(D.push (bV [] 0)).objs.size:=fun p L=>lM (gu S3 (d9 _ L));have Ln:∀p∈c.ex,p.1≠D.objs.size:=fun p L=>lM (gu S2 (d9 _ L));refine bQ S3.fr fun mz Fz Xh UX R=>?_;have O:=vR (c:={c with ex:=(D.objs.size,bV [] 0)::c.ex}) (s:=(sh s (D.push (bV [] 0)) yu)) H o.ex S3 Fz UX;have I2:=vR (s:=sh s D yu) H o S2 F hl;refine aZ (Cx.aC.oN (c:=c) S4 hx O Lm U3 (IsDictOf.sy (knd:=strKind pr w) fm)) fun S5 g5=>?_;have G3:Go W1 U D W1 U h3:=g3.trans (g4.trans g5);have old:∀b ob,D.get? b=some ob→h3.get? b=some ob:=fun b ob e=>(Lm.2 b (lM (by rw [Heap.size_push];exact Nat.lt_succ_of_lt (Heap.lt_size e)))).trans (Heap.get?_push_of_some _ (Heap.get?_push_of_some _ e));have HB:(D.push (bV [] 0)).objs.size≠I:=fun e=>by rw [Heap.size_push] at e;exact absurd E_ (Nat.not_lt.mpr (e▸Nat.le_succ _))
  have Xd:=S5.nw (_,Y) (d9 _ (.head _));have S6:({c with ev:=compEnvC u.2.2.1 cl (D.push (bV [] 0)).objs.size c.ev,ml:=fun l=>l=m,ex:=((D.push (bV [] 0)).objs.size,Y)::(D.objs.size,bV [] 0)::c.ex}:Cx).aC w W1 U l0 h3:=by
   refine ⟨⟨m,F.keeps old,_,⟨rfl,.inr ⟨Y,.head _,UZ⟩⟩,fun y d e=>?_⟩,S5.nw,S5.jl,S5.cells⟩;refine aZ (hp1 y d e) fun hy hyl=>iB (hm y d hyl) fun a1 v I5 r=>qk a1 v ⟨fun hk=>?_,fun hk=>?_⟩ (r.go G3)
   ·have hk:(uE u.2.2.1 c.ev.scope).names.lookup (nm y)=some .local:=hk
    rw [lq,b5 y hy] at hk;have hk:(if (NameKind.free==NameKind.free&&c.ev.scope.kind==ScopeKind.function&&List.lookup (nm y) c.ev.scope.names==some NameKind.cell)=true then NameKind.cell else NameKind.free)= .local:=bw hk;exact Fv (fun e=>(nomatch (show NameKind.cell=NameKind.local from e))) (fun e=>(nomatch (show NameKind.free=NameKind.local from e))) hk
   ·have hmem:=lookup_mem (b5 y hy)
    refine az (I5.2 (b4 _ hmem rfl).1) fun a ha xm=>?_;subst xm;refine aA (MV _ hmem rfl) fun a' ha'=>?_;cases (MU _ _ ha').symm.trans ha;exact cJ _ ha' rfl
  have o':({c with ev:=compEnvC u.2.2.1 cl (D.push (bV [] 0)).objs.size c.ev,ml:=fun l=>l=m}:Cx).Ok w n:=⟨o.G,b1,o.hg,o.hb,o.hd,o.hu,fun q=>o.tp (Bg t1 q)⟩
  have T:=H.cp (cc:=fun c1=>c1=({c with ev:=compEnvC u.2.2.1 cl (D.push (bV [] 0)).objs.size c.ev,ml:=fun l=>l=m}:Cx)) (Ψ:=fun vs M=>ao Z (gG z vs.length (cT z av M (.list vs) kk))) (fun c1 e=>e▸⟨o',rfl⟩) t4 t5 (p.bind.mono fun rs σ2 R N=>by
   cases rs with
   |vs vs=>exact N
   |_=>exact N.elim)
  have K':It w ({c with ev:=compEnvC u.2.2.1 cl (D.push (bV [] 0)).objs.size c.ev,ml:=fun l=>l=m}:Cx) W1 U h3 I ds g fp P St:=⟨K.wk,K.wk.frame _ _ _ K.st fun b R ob e=>old b ob e,K.cls,fun i v d W' X L hd le T=>K.rel i v d W' X L hd le (aX.trans G3.t T),fun Sa Sb Ga Gb=>K.keep Sa Sb (G3.trans Ga) Gb⟩
  have loop:∀j,codeAny (M0 w) c.A (.compLoop (.ListComp u.1 [⟨tg,it',ifs,0⟩] u.2.2.1 u.2.2.2) 0 (.ref I) (.ref D.objs.size) (compEnvC u.2.2.1 cl (D.push (bV [] 0)).objs.size c.ev)) (compPost (M0 w) c.A E use Q (.ref D.objs.size) (D.push (bV [] 0)).objs.size) (sh s h3 j):=fun j=>by
   refine tU (Ψ:=fun vs M=>ao Z (gG z vs.length (cT z av M (.list vs) kk))) (c:={c with ev:=compEnvC u.2.2.1 cl (D.push (bV [] 0)).objs.size c.ev,ml:=fun l=>l=m}) (s:=sh s h3 j) K' b1 rfl IQ hIL hDC HB (fun e=>absurd E_ (Nat.not_lt.mpr (Nat.le_of_eq e))) (fun p L=>hI p (d9 _ L)) (fun p L=>hx p (.tail _ L)) Ln hds t2 t5 (fun X tk W2 σ2 Ae V vs mm Tj Sx Gx rx Vk=>?_) ⟨h3,j,W1,U,l0,Y,[],0,[],0,rfl,K'.st,S6,fun p L=>hI p (dS _ L),hv,.nil,T,.refl,Nat.zero_le _,Nat.zero_le _,rfl⟩;refine bQ Sx.fr fun mx Fx Xg hlx R=>?_;have RL:=Sx.nw ((D.push (bV [] 0)).objs.size,V) (d9 _ (.head _));cases (show mx=m from hlx.1);have M4:∃m,LCg.NsObj V m:=by
    rcases hlx.2 with ⟨e,_⟩|⟨ob,ho,hn⟩
    ·exact absurd e RL.2.1
    ·have q:=(Sx.nw _ (d9 _ ho)).1
     cases RL.1.symm.trans q;exact ⟨_,hn⟩
   refine aA M4 fun m2 hn2=>?_;have Gy:Go W1 U D W2 σ2 X:=G3.trans Gx;have Sy:({c with ex:=((D.push (bV [] 0)).objs.size,V)::(D.objs.size,bV vs mm)::c.ex}:Cx).aC w W2 σ2 ls X:=⟨⟨_,Fx,m',hl.more fun p L=> .tail _ (.tail _ L),j8.mono hm Gy.e.le Gy.t⟩,Sx.nw,Sx.jl,Sx.cells⟩
   refine bN Vk fun R p=>gV p fun gR hg p=>?_;obtain ⟨W3,S8,g8,e8⟩:=Cx.aC.qb (c:={c with ex:=((D.push (bV [] 0)).objs.size,V)::c.ex}) (b:= .list Tj) (Cx.aC.swap (c:=c) Sy) (gU hDC.symm Ln) I2 hg (fun q=>absurd (show Value.type "list" = .type "tuple" from q.1) aD) fun W' e le=>⟨vs,mm,e,rx.mono le aX.refl'⟩
   exact fin _ _ W3 _ V X _ _ m2 S8 (fun p L=>hx p (.tail _ L)) O hn2 (g1.trans (g2.trans (Gy.trans g8))) (.aj e8) p
  exact codeAny_compStart_list (loop _) (K'.wk.self 0 _ _ _ K'.st (loop _))
theorem A1 {elt:ME} {ig:Bool} {it:ME} {cond:Option ME} {fv:List Nat} (t:kP (zk w) (cD (zk w) k) c.ev.scope (.comp xs elt ig it cond fv) x=true) (p:ao (fk w c W σ ls s Q E) (cC PG z av q rx (.comp xs elt ig it cond fv) σ ls)):zw w c (eval x c.ev) Q E s:=by
 obtain ⟨el,gens,sc,pos,e,hw⟩:=pg (use:=none) (Q:=Q) (E:=E) H o S t p fun dv M W' C Y X tk v m' S' hx O hn g r p=>by have hC:=S'.nw (C,Y) (d9 _ (.head _));refine cJ m' (hn.ns hC.1) (fun h4 M_=>?_);refine aZ (Cx.aC.but (Cx.aC.jk (c:=c) S' O) M_ (fun p L=>(jx L).elim (fun L e=>S'.jl (C,Y) (.head _) p L e.symm) (hx p)) hC.2.1 hC.2.2 hC.1 (nB hn)) fun Sw tw=>p.now Sw (g.trans (.cQ tw)) (r.mono .refl tw)
 rw [e,eval_ListComp];exact hw
end
end
set_option backward.match.sparseCases true
section
variable {env:Env} {op:yl} {R:Prop} {y:Nat} {e m:ME}
theorem jY {e:Expr} {t:Option Expr} {l:Nat} (h:rZ e=false):swapsWith e t l env=pure false:=by
 cases e with
 |ListComp=>exact nof h.symm
 |SetComp=>exact nof h.symm
 |DictComp=>exact nof h.symm
 |_=>rfl
theorem ye {e o i:Expr} {p:Pos} {l:Nat}:swapsWith e (some (.Subscript o i p)) l env=pure false:=by cases e<;>rfl
theorem G_ {es:List Expr} {k:Nat} {p:Pos} {v:Expr} (h:zY v=false):swappedStores [.Tuple es k p] v env=pure none:=by
 cases v with
 |Tuple=>exact nof h.symm
 |_=>rfl
theorem sr (h:Ao op=true) (k:op≠.mul→R):R:=k fun e=>by subst e;exact nof h
section
variable {w:World} {c:Cx} {W:Wd} {σ:ah} {ls:Lc} {s:Shared} {Q:Flow→Shared→Prop} {E:zQ} {n k:Nat} {q:zT} {z:Bool} {av:Nat} {l:List MS} {t:Stmt} {r:List Stmt} {Φ:zP} {h:Heap}
theorem wF {a b r:Int} {t u:Tok} {Q:zQ} (h:binI op a b=some r) (hm:op≠.mul) (k:∀tk tk',Q (.int r tk) {s with toks:=tk'}):zw w c (inplaceOp (ED op) (.int a t) (.int b u)) Q E s:=by
 cases op with
 |add=>cases bw h;exact iadd_int (k _ _)
 |sub=>cases mj.symm.trans (bw h);exact isub_int (k _ _)
 |mul=>exact absurd rfl hm
 |mod=>cases b with
  |ofNat b=>cases b with
   |zero=>exact aW h
   |succ b=>
    cases bw h;refine imod_int (by simp only [Int.ofNat_eq_natCast];exact QF) ?_;have:=k s.toks (s.toks+1);rw [Int.fmod_eq_emod_of_nonneg]
    ·exact this
    ·simp only [Int.ofNat_eq_natCast];exact VV
  |negSucc b=>exact aW h
 |fdiv=>cases b with
  |ofNat b=>cases b with
   |zero=>exact aW h
   |succ b=>
    have h:(match Nat.blt b 1000000 with|true=>some (a/((b+1:Nat):Int))|false=>none)=some r:=h;cases hb:Nat.blt b 1000000 with
    |false=>rw [hb] at h;exact aW h
    |true=>
     rw [hb] at h;have:=dD hb;cases bw h;refine ifloordiv_int (by simp only [Int.ofNat_eq_natCast];exact R4 this) ?_ (.inl (PyProof.noPylong_small (SH this)));have:=k s.toks (s.toks+1);rw [Int.fdiv_eq_ediv_of_nonneg]
     ·exact this
     ·exact Int.natCast_nonneg _
  |negSucc b=>exact aW h
 |band=>cases a with
  |ofNat a=>cases b with
   |ofNat b=>cases bw h;refine iand_int ?_;rw [bitAnd_pp (by simp) (by simp)];exact k _ _
   |negSucc b=>exact aW h
  |negSucc a=>exact aW h
 |bor=>cases a with
  |ofNat a=>cases b with
   |ofNat b=>
    cases bw h;refine ior_int ?_;rw [borN];exact k _ _
   |negSucc b=>exact aW h
  |negSucc a=>exact aW h
theorem l6 {α:Type} {d:α} {l:List (Nat×α)} {K:List (Nat×α)→RR} (p:ao Φ (c_ l y d K)) (f:ao Φ (K (aV l y d))→R):R:=f (cU (k:=K)▸p)
theorem qm {d:DV} {K:Int→RR} (p:ao Φ (HD d K)) (f:∀i,d= .int i→ao Φ (K i)→R):R:=by
 cases d with
 |int i=>exact f i rfl p
 |_=>exact p.elim
variable (H:ic w n q) (o:c.Ok w n) (M:c.ev.locals=c.L) (B:c.ev=c.fe∧∀m,c.ml m) (S:c.aC w W σ ls s.heap)
include H o M B S
theorem Ba {u:Str} {d:DV} {v:Value} {W1:Wd} {A:ah} {C:Heap} {bO:Nat} {Lu:Lc} (ty:gE c.ev.scope y u=true) (t2:cF (eV (zk w) c.ev.scope k) l r=true) (D:c.aC w W1 A Lu C) (g1:Go W σ s.heap W1 A C) (F:aP W1.ρ C d v) (p:ao (fM w c W σ s Q E) (c_ Lu y d fun ls=>q (.ss l) A ls)):
  zw w c (storeName c.ev u v) (fun Z j=>zw w c (execs r c.ev) Q E j) E (sh s C bO):=
 l6 p fun p=>fJ ty fun u1 u2 u3 Z=>u2▸(iO o M B.2).st (s:=sh s C bO) u1 u3 D F fun V tk O g=>H.ss (s:=sh s V tk) o M B t2 O (fM.then p (g1.trans (.cQ g)))
theorem GU (t1:rm (zk w) c.ev.scope (cD (zk w) k c.ev.scope) (eV (zk w) c.ev.scope k) (.b7 y e) t=true) (t2:cF (eV (zk w) c.ev.scope (k+1)) l r=true) (p:ao (fM w c W σ s Q E) (eE PG z av q (.b7 y e) l σ ls)):zw w c (execs (t::r) c.ev) Q E s:=
 au t1 fun a J t=>au t fun u hu t=>au t fun v U t=>af t fun ty t=>af t fun I N=>by have e:=dh J;rw [cO hu,aU U] at e;rw [e];exact wpAny_execs_cons (wpAny_Assign_Name (H.bv o I S p fun d A W1 C bO X D g1 F p=>Ba H o M B S ty t2 D g1 F p) (jY (bu N)))
theorem Dj {a:Nat} (t1:rm (zk w) c.ev.scope (cD (zk w) k c.ev.scope) (eV (zk w) c.ev.scope k) (.a_ m a e) t=true) (t2:cF (eV (zk w) c.ev.scope (k+1)) l r=true) (p:ao (fM w c W σ s Q E) (eE PG z av q (.a_ m a e) l σ ls)):zw w c (execs (t::r) c.ev) Q E s:=
 au t1 fun a J t=>au t fun u hu t=>au t fun v U t=>af t fun I t=>af t fun T t=>af t fun tn N=>ju tn fun Z en=>by have e:=dh J;rw [cO hu,cN U,en] at e;rw [e];refine wpAny_execs_cons (plainObj_wpAny_Assign_Attribute (H.bv o I S p fun d A W1 C bO X D g1 F p=>?_) (jY (bu N)));refine H.bv (s:=sh s C bO) o T D p fun d2 Y W2 P G v2 O g2 r2 p=>x8 (s:=sh s P G) o O r2 (F.go g2) p fun σ' W' V tk S3 g3 p=>H.ss (s:=sh s V tk) o M B t2 S3 (fM.then p (g1.trans (g2.trans g3)))
theorem Dk {i:ME} (t1:rm (zk w) c.ev.scope (cD (zk w) k c.ev.scope) (eV (zk w) c.ev.scope k) (.cS m i e) t=true) (t2:cF (eV (zk w) c.ev.scope (k+1)) l r=true) (p:ao (fM w c W σ s Q E) (eE PG z av q (.cS m i e) l σ ls)):zw w c (execs (t::r) c.ev) Q E s:=
 au t1 fun a J t=>au t fun u hu t=>au t fun v U t=>af t fun I t=>af t fun T ti=>by have e:=dh J;rw [cO hu,bY U] at e;rw [e];refine wpAny_execs_cons (wpAny_Assign_Subscript (H.bv o I S p fun d A W1 C bO X D g1 F p=>?_) ye);refine H.bv (s:=sh s C bO) o T D p fun d2 Y W2 P G v2 O g2 r2 p=>H.bv (s:=sh s P G) o ti O p fun d3 σ3 W3 h3 Be v3 S3 g3 r3 p=>sP (s:=sh s h3 Be) o S3 (r2.go g3) r3 (F.go (g2.trans g3)) p fun σ' W' V tk S4 g4 p=>H.ss (s:=sh s V tk) o M B t2 S4 (fM.then p (g1.trans (g2.trans (g3.trans g4))))
theorem Dl {xs:List Nat} (t1:rm (zk w) c.ev.scope (cD (zk w) k c.ev.scope) (eV (zk w) c.ev.scope k) (.wY xs e) t=true) (t2:cF (eV (zk w) c.ev.scope (k+1)) l r=true) (p:ao (fM w c W σ s Q E) (eE PG z av q (.wY xs e) l σ ls)):zw w c (execs (t::r) c.ev) Q E s:=
 au t1 fun a J t=>au t fun u hu t=>au t fun v U t=>af t fun tx t=>af t fun I t=>af t fun N tt=>by
  have e:=dh J;rw [cO hu,iV U] at e;rw [e];refine wpAny_execs_cons (Assign_Tuple (H.bv o I S p fun d A W1 C bO X D g1 F p=>?_) (by unfold swapsWithSole;exact jY (bu N)) (G_ (bu tt)));cases d with
  |ai ds=>have p:ao (fM w c W σ s Q E) (bo (eS xs ds) fun bs=>putAll bs ls fun ls=>q (.ss l) A ls):=p;refine eT p fun bs hz p=>?_;rw [kH] at p;exact mK (s:=sh s C bO) rfl (iO o M B.2) tx hz F D fun V tk O g=>H.ss (s:=sh s V tk) o M B t2 O (fM.then p (g1.trans (.cQ g)))
  |_=>exact p.elim
theorem GV (t1:rm (zk w) c.ev.scope (cD (zk w) k c.ev.scope) (eV (zk w) c.ev.scope k) (.aug y op e) t=true) (t2:cF (eV (zk w) c.ev.scope (k+1)) l r=true) (p:ao (fM w c W σ s Q E) (eE PG z av q (.aug y op e) l σ ls)):zw w c (execs (t::r) c.ev) Q E s:=
 au t1 fun a J t=>au t fun u hu t=>af t fun ty t=>af t fun to I=>af to fun to hm=>sr hm fun hm=>eT p fun d0 hd0 p=>qm p fun i0 e0 p=>fJ ty fun u1 u2 u3 Y=>by subst e0;have e:=jc J;rw [aU hu,dR to] at e;rw [e];refine az S.ns fun m hns hm'=>iB (hm' y _ hd0) fun Y v0 hv0 r0=>wpAny_execs_cons (wpAny_AugAssign_Name (wpAny_loadName_local o.hk (u2▸u3) hns (u2▸hv0.1 u3) ?_));refine H.bv o I S p fun d A W1 C bO X D g1 F p=>qm p fun i1 e1 p1=>eT p1 fun i2 P p2=>?_;subst e1;rw [lU] at p2;exact r0.aG fun Y=>F.aG fun Y=>wF (s:=sh s C bO) P hm fun tt Z=>Ba H o M B S (bO:=Z) ty t2 D g1 (.int _ tt) p2
theorem Dp {i:ME} (t1:rm (zk w) c.ev.scope (cD (zk w) k c.ev.scope) (eV (zk w) c.ev.scope k) (.w7 m i op e) t=true) (t2:cF (eV (zk w) c.ev.scope (k+1)) l r=true) (p:ao (fM w c W σ s Q E) (eE PG z av q (.w7 m i op e) l σ ls)):zw w c (execs (t::r) c.ev) Q E s:=
 au t1 fun a J t=>au t fun u hu t=>af t fun T t=>af t fun ti t=>af t fun to t=>af to fun to hm=>sr hm fun hm=>af t fun I N=>by
  have e:=jc J;rw [bY hu,dR to] at e;rw [e];refine wpAny_execs_cons (wpAny_AugAssign_Subscript_any (H.bv o T S p fun d A W1 C bO X D g1 F p=>?_) fun ov iv new=>?_)
  ·refine H.bv (s:=sh s C bO) o ti D p fun d2 Y W2 P G v2 O g2 r2 p=>?_
   obtain ⟨_,_,_,_,hg⟩:=sR (s:=sh s P G) (Q:=fun old s₃=>zw w c (eval a.2.2.1 c.ev) (fun v s₄=>zw w c (inplaceOp (ED op) old v) (fun new s₅=>zw w c (setItem X v2 new) (fun U j=>zw w c (execs r c.ev) Q E j) E s₅) E s₄) E s₃) (E:=E) o O (F.go g2) r2 p fun dv v' tk r3 p=>qm p fun i3 e3 p=>by subst e3;refine H.bv (s:=sh s P tk) o I O p fun d4 SQ W4 h4 WO v4 S4 g4 r4 p=>qm p fun i4 e4 p1=>eT p1 fun i5 h5 p2=>?_;subst e4;rw [lU] at p2;exact r3.aG fun U=>r4.aG fun U=>wF (s:=sh s h4 WO) h5 hm fun tt Z=>sP (s:=sh s h4 Z) o S4 (F.go (g2.trans g4)) (r2.go g4) (.int _ tt) p2 fun σ' W' V tk S5 g5 p=>H.ss (s:=sh s V tk) o M B t2 S5 (fM.then p (g1.trans (g2.trans (g4.trans g5))))
   exact hg
  ·have N:=bu N
   generalize u.2.1=x at N;cases x with
   |Slice=>exact nof N.symm
   |_=>rfl
theorem KL (t1:rm (zk w) c.ev.scope (cD (zk w) k c.ev.scope) (eV (zk w) c.ev.scope k) (.ex e) t=true) (t2:cF (eV (zk w) c.ev.scope (k+1)) l r=true) (p:ao (fM w c W σ s Q E) (eE PG z av q (.ex e) l σ ls)):zw w c (execs (t::r) c.ev) Q E s:=
 au t1 fun a J t=>af t fun I N=>by
  rw [Bu J];have hi:interactive c.ev=false:=by have:interactive c.ev=(c.ev.scope.kind== .module&&c.ev.scope.more.any fun (n,_)=>n==("interactive" :Str)):=rfl;rw [this,o.hk];rfl
  exact wpAny_execs_cons (wpAny_Expr_any (H.bv o I S p fun d A W1 C bO X D g1 F p=>H.ss (s:=sh s C bO) o M B t2 D (fM.then p g1)) hi (jY (bu N)))
theorem KN {a b:List MS} (t1:rm (zk w) c.ev.scope (cD (zk w) k c.ev.scope) (eV (zk w) c.ev.scope k) (.iff m a b) t=true) (t2:cF (eV (zk w) c.ev.scope (k+1)) l r=true) (p:ao (fM w c W σ s Q E) (eE PG z av q (.iff m a b) l σ ls)):zw w c (execs (t::r) c.ev) Q E s:=
 au t1 fun u hu t=>af t fun T t=>af t fun ta tb=>by
  rw [Hw hu];refine wpAny_execs_cons (wpAny_If (H.bb o T S p fun b' A W1 C bO D g1 p=>?_));have fin:∀(m:List MS) (x:List Stmt),cF (eV (zk w) c.ev.scope k) m x=true→ao (fM w c W σ s Q E) (bf (q (.ss m) A ls) fun σ ls=>q (.ss l) σ ls)→zw w c (execs x c.ev) (fun f j=>match f with| .next=>zw w c (execs r c.ev) Q E j|f=>Q f j) E (sh s C bO):=fun m x T p=>H.bf (s:=sh s C bO) (Q:=Q) o M B T D (fM.then p g1) (fun f j hf hq=>by cases f<;>first|exact absurd rfl hf|exact hq) fun Y Ae W2 P G O g2 p=>H.ss (s:=sh s P G) o M B t2 O (fM.then (s:=sh s C bO) p g2);cases b' with
  |true=>exact fin a _ ta p
  |false=>exact fin b _ tb p
theorem GX {e:Option ME} (t1:rm (zk w) c.ev.scope (cD (zk w) k c.ev.scope) (eV (zk w) c.ev.scope k) (.ret e) t=true) (p:ao (fM w c W σ s Q E) (eE PG z av q (.ret e) l σ ls)):zw w c (execs (t::r) c.ev) Q E s:=
 au t1 fun u hu t=>by
  rw [nO hu];cases e with
  |none=>rw [By t];exact wpAny_execs_cons (wpAny_Return_none (p W s.heap s.toks _ S .refl ⟨_,rfl,.none⟩))
  |some e=>refine au t fun v U t=>?_;rw [U];exact wpAny_execs_cons (wpAny_Return_some (H.DO o t S p (fun Z hy=>hy) fun d A W1 C bO X D g1 F p=>p W1 C bO _ D g1 ⟨_,rfl,F⟩))
end
end
section
variable {y:Nat} {e:ME} {b:List MS}
section
variable {w:World} {c:Cx} {W:Wd} {σ:ah} {ls:Lc} {s:Shared} {Q:Flow→Shared→Prop} {E:zQ} {n k j:Nat} {q:zT} {z:Bool} {av:Nat} {l:List MS} {t:Stmt} {r:List Stmt} {Φ:zP} {h:Heap} {rx:Bool→Nat→zT}
theorem yR {o:RR} {K:ah→Lc→RR} (p:ao Φ (yo o K)):ao (HR fun fl σ ls=>match fl with| .next=>ao Φ (K σ ls)| .ret d=>Φ (.f (.ret d)) σ ls) o:=p.bind.mono fun rs B D z=>by
 cases rs with
 |f fl=>cases fl with
  |next=>exact z
  |ret d=>exact z
 |_=>exact z.elim
theorem GL (H:ic w n q) {g:zO} {ds:zL} {m:List MS} {x:List Stmt} {Ψ:Fl→ah→Lc→Prop} (o:c.Ok w n) (J:c.ev.locals=c.L) (A:c.ev=c.fe∧∀m,c.ml m) (t:cF (eV (zk w) c.ev.scope k) m x=true) (p:ao (HR Ψ) (step PG z av q rx (.cj y g ds m) σ ls)):mG w c y g x Ψ ds σ ls:=by
 cases ds with
 |nil=>exact p
 |cons d ds=>
  refine l6 p fun p ex W s Q E S kk=>H.ss (c:={c with ex:=ex}) o.ex J A t S (p.bind.mono fun rs B D z=>?_);cases rs with
  |f fl=>cases fl with
   |next=>exact mD z fun hv z=>kk .next B D ⟨hv,H.fr o J A t z⟩
   |ret d=>exact kk (.ret d) B D z
  |_=>exact z.elim
theorem GR (H:ic w n q) {m:List MS} {tt:PySem.Expr} {x:List Stmt} {Ψ:Fl→ah→Lc→Prop} (o:c.Ok w n) (J:c.ev.locals=c.L) (A:c.ev=c.fe∧∀m,c.ml m) (V:cD (zk w) j c.ev.scope e tt=true) (t:cF (eV (zk w) c.ev.scope k) m x=true) (p:ao (HR Ψ) (step PG z av q rx (.yv e m) σ ls)):lO w c tt x Ψ (n+1) σ ls:=fun ex W s Q E S kk=>H.b (c:={c with ex:=ex}) o.ex V S (p.bind.mono fun rs N Z z=>by
  cases rs with
  |b b=>cases b with
   |false=>exact kk false N z
   |true=>
    refine kk true N fun ex W s Q E S k2=>H.ss (c:={c with ex:=ex}) o.ex J A t S (z.bind.mono fun rs B D z=>?_);cases rs with
    |f fl=>cases fl with
     |next=>exact k2 .next B D (H.wh o J A V t z)
     |ret d=>exact k2 (.ret d) B D z
    |_=>exact z.elim
  |_=>exact z.elim)
variable (H:ic w n q) (o:c.Ok w n) (J:c.ev.locals=c.L) (A:c.ev=c.fe∧∀m,c.ml m) (S:c.aC w W σ ls s.heap)
include H o J A S
theorem wo {W1:Wd} {F:ah} {h1:Heap} {bO:Nat} (g1:Go W σ s.heap W1 F h1) (t2:cF (eV (zk w) c.ev.scope (k+1)) l r=true):∀fl B D,(match fl with| .next=>ao (fM w c W σ s Q E) (q (.ss l) B D)| .ret d=>fM w c W σ s Q E (.f (.ret d)) B D)→KS w c W1 F (sh s h1 bO) (fun f Z=>match f with| .next=>zw w c (execs r c.ev) Q E Z|f=>Q f Z) fl B D:=fun fl B D O=>by
 cases fl with
 |next=>exact fun W' M tk f S' G e=>(show f= .next from e)▸H.ss (s:=sh s M tk) o J A t2 S' (fM.then O (g1.trans G))
 |ret d=>intro W' M tk f S' G e;refine az e fun v iY rv=>?_;subst iY;exact O W' M tk _ S' (g1.trans G) ⟨v,rfl,rv⟩
theorem wG {ig:Bool} {u:Str×Pos} {iter:PySem.Expr} {body:List Stmt} {pos:Pos} (ty:gE c.ev.scope y u.1=true) (ti:yf (zk w) (cD (zk w) k c.ev.scope) c.ev.scope ig e iter=true) (tb:cF (eV (zk w) c.ev.scope k) b body=true) (t2:cF (eV (zk w) c.ev.scope (k+1)) l r=true)
  (p:ao (fM w c W σ s Q E) (bv (q (.e e) σ ls) fun d σ=>(match ig with|true=>kJ z d|false=>fD z σ d) fun g ds=>yo (q (.cj y g ds b) σ ls) fun σ ls=>q (.ss l) σ ls)):zw w c (execs (.For (.Name u.1 u.2) iter body [] pos::r) c.ev) Q E s:=by
 refine wpAny_execs_cons (wpAny_For (A4 (r:=fun σ g ds=>yo (q (.cj y g ds b) σ ls) fun σ ls=>q (.ss l) σ ls) H o S ti p fun F W1 h1 bO S1 g1 g ds I h2 U fp P St K S2 g2 hI IQ hIL E_ hv hds p=>?_) (sZ ti));exact A6 (s:=sh s h2 U) K o J A.2 ty IQ hIL S2 hI hv (H.fr o J A tb (yR p)) (wo H o J A S (g1.trans g2) t2)
theorem GW (t1:rm (zk w) c.ev.scope (cD (zk w) k c.ev.scope) (eV (zk w) c.ev.scope k) (.cj y e b) t=true) (t2:cF (eV (zk w) c.ev.scope (k+1)) l r=true) (p:ao (fM w c W σ s Q E) (eE PG z av q (.cj y e b) l σ ls)):zw w c (execs (t::r) c.ev) Q E s:=
 au t1 fun a Y t=>au t fun u hu t=>af t fun t0 t=>af t fun ty t=>af t fun ti tb=>by have e:=wN Y;rw [aU hu,bg t0] at e;rw [e];exact wG (ig:=true) H o J A S ty ti tb t2 p
theorem Dq (t1:rm (zk w) c.ev.scope (cD (zk w) k c.ev.scope) (eV (zk w) c.ev.scope k) (.forL y e b) t=true) (t2:cF (eV (zk w) c.ev.scope (k+1)) l r=true) (p:ao (fM w c W σ s Q E) (eE PG z av q (.forL y e b) l σ ls)):zw w c (execs (t::r) c.ev) Q E s:=
 au t1 fun a Y t=>au t fun u hu t=>af t fun t0 t=>af t fun ty t=>af t fun ti tb=>by have e:=wN Y;rw [aU hu,bg t0] at e;rw [e];exact wG (ig:=false) H o J A S ty ti tb t2 p
theorem GZ (t1:rm (zk w) c.ev.scope (cD (zk w) k c.ev.scope) (eV (zk w) c.ev.scope k) (.yv e b) t=true) (t2:cF (eV (zk w) c.ev.scope (k+1)) l r=true) (p:ao (fM w c W σ s Q E) (eE PG z av q (.yv e b) l σ ls)):zw w c (execs (t::r) c.ev) Q E s:=
 au t1 fun a Y t=>af t fun t0 t=>af t fun V tb=>by
  have e:=yk Y;rw [bg t0] at e;rw [e];have T:=H.wh o J A V tb (yR p);have k2:=wo (Q:=Q) (E:=E) (bO:=s.toks) H o J A S .refl t2;refine wpAny_execs_cons (wpAny_While (codeAny_whileLoop (fun j Z=>∃M tk W1 F X,Z=(sh s M tk)∧c.aC w W1 F X M∧lO w c a.1 a.2.1 (fun fl B D=>match fl with| .next=>ao (fM w c W σ s Q E) (q (.ss l) B D)| .ret d=>fM w c W σ s Q E (.f (.ret d)) B D) j F X∧Go W σ s.heap W1 F M) (fun j Z hJ=>?_) n ⟨s.heap,s.toks,W,σ,ls,rfl,S,T,.refl⟩));refine ua hJ fun M tk W1 F X Tp S1 T1 G1=>?_;subst Tp;cases j with
  |zero=>exact T1.elim
  |succ j=>
   refine T1 c.ex W1 (sh s M tk) _ _ S1 fun b σ2 O W2 h2 U S2 G2=>?_;cases b with
   |false=>exact wpAny_execs_nil (k2 .next σ2 X O W2 h2 U .next S2 (G1.trans G2) rfl)
   |true=>
    refine O c.ex W2 (sh s h2 U) _ _ S2 fun fl σ3 Su hf W3 h3 R f' S3 G3 r3=>?_;cases fl with
    |next=>cases (show f'= .next from r3);exact ⟨j,Nat.lt_succ_self _,h3,R,W3,σ3,Su,rfl,S3,hf,G1.trans (G2.trans G3)⟩
    |ret d=>have:=k2 (.ret d) σ3 Su hf W3 h3 R f' S3 (G1.trans (G2.trans G3)) r3;refine az r3 fun v iY u=>?_;subst iY;exact this
theorem uN {e:PySem.Expr} {y:Str} {p:Pos} {l:Nat} (h:c.ev.scope.names.lookup y=some .cell):swapsWith e (some (.Name y p)) l c.ev=pure false:=by
 have hk:(c.ev.kindOf y==some NameKind.local)=false:=by rw [show c.ev.kindOf y=some .cell from h];rfl
 cases e with
 |ListComp _ _ _ _=>unfold swapsWith;simp only [hk,Bool.and_false,Bool.false_and]
 |SetComp _ _ _ _=>unfold swapsWith;simp only [hk,Bool.and_false,Bool.false_and]
 |DictComp _ _ _ _ _=>unfold swapsWith;simp only [hk,Bool.and_false,Bool.false_and]
 |_=>rfl
theorem Dn (t1:rm (zk w) c.ev.scope (cD (zk w) k c.ev.scope) (eV (zk w) c.ev.scope k) (.kc y e) t=true) (t2:cF (eV (zk w) c.ev.scope (k+1)) l r=true) (p:ao (fM w c W σ s Q E) (eE PG z av q (.kc y e) l σ ls)):zw w c (execs (t::r) c.ev) Q E s:=
 au t1 fun a Y t=>au t fun u hu t=>au t fun v hv t=>af t fun ty V=>sY ty fun u1 u2 u3 Z=>by
  have e:=dh Y;rw [cO hu,aU hv,u2] at e;rw [e];refine wpAny_execs_cons (wpAny_Assign_Name (H.bv o V S p fun d F W1 h1 bO v1 S1 g1 r1 p=>eT p fun dl hdl p=>?_) (uN H o J A S u3));cases dl with
  |aj i j=>
   refine bq p fun cz b hc p=>?_;cases b with
   |var ov=>
    have p:ao (fM w c W σ s Q E) (setC z F i j cz (.var (some d)) fun σ=>q (.ss l) σ ls):=p;rw [iT] at p;refine az (Cx.aC.ns (s:=sh s h1 bO) S1) fun m hns hm=>iB (hm y _ hdl) fun Z vv I5 rl=>az (I5.2 u3) fun ad had xm=>?_;subst xm;refine xu (S1.cells.cell i j _ hc) fun a' e1 e2 e3 Wm e4 e5=>?_;have Tn:ad=a':=by cases rl with|aj rl=>exact bw (rl.symm.trans e1)
    subst Tn;have hget:=(S1.nw _ (dS _ e3)).1;refine wpAny_storeName_cell o.hk u3 had ⟨_,hget,e4⟩ fun M hn hs=>az hn fun ob hob hod=>?_;obtain ⟨W2,S2,g2⟩:=S1.CP (b:= .var (some d)) hc e1 hs hob (fun q=>by obtain ⟨_,vs,n,e'⟩:=q;exact nomatch hod.symm.trans e') fun W' q1 q2 tt=>⟨some v1,by rw [q2];exact hod,v1,rfl,r1.mono (by rw [q1];exact .refl) tt⟩
    exact H.ss (s:=sh s M bO) o J A t2 S2 (fM.then p (g1.trans g2))
   |_=>exact p.elim
  |_=>exact p.elim
theorem Dm (t1:rm (zk w) c.ev.scope (cD (zk w) k c.ev.scope) (eV (zk w) c.ev.scope k) (.mJ y e) t=true) (t2:cF (eV (zk w) c.ev.scope (k+1)) l r=true) (p:ao (fM w c W σ s Q E) (eE PG z av q (.mJ y e) l σ ls)):zw w c (execs (t::r) c.ev) Q E s:=
 au t1 fun a Y t=>au t fun u hu t=>au t fun v hv t=>au t fun lc RS t=>af t fun ty t=>af t fun V t=>af t fun tl tn=>by
  cases e with
  |comp xs elt ig it cond fv=>
   cases k with
   |zero=>exact nof V
   |succ k=>
    have e:=dh Y;rw [cO hu,aU hv,fj RS] at e;rw [e];refine fJ ty fun u1 u2 u3 X=>wpAny_execs_cons ?_;have hs:swapsWith (.ListComp lc.1 lc.2.1 lc.2.2.1 lc.2.2.2) (some (.Name v.1 v.2)) a.2.2.line c.ev=pure true:=by
     have h1:(c.ev.blockKind== .function)=true:=by unfold Env.blockKind;rw [o.hk];rfl
     have h2:(c.ev.kindOf v.1==some NameKind.local)=true:=by rw [u2,show c.ev.kindOf (nm y)=some .local from u3];rfl
     have h3:(v.2.line==lc.2.2.2.line)=true:=u7 (ie tl);show pure (c.ev.blockKind== .function&&c.ev.kindOf v.1==some .local&&v.2.line==lc.2.2.2.line&&!(lc.2.2.1.names.any fun (n,k)=>n==v.1&&(k== .local||k== .cell)))=pure true;rw [h1,h2,h3,bu tn];rfl
    rw [exec_Assign_Name_used _ _ _ _ hs];refine bP (wpAny_standAt (bP ?_));obtain ⟨el,gens,sc,pos,ex,hw⟩:=pg (use:=some (assign (.Name v.1 v.2) c.ev)) (Q:=fun X Z=>zw w c (execs r c.ev) Q E Z) (E:=E) H o S V p fun dv B W' C oC M tk vv m' S' hx hloc hn g rv p=>l6 p fun p=>by show zw w c (assign (.Name v.1 v.2) c.ev vv) _ E _;refine wpAny_assign_Name (u2▸(iO (c:={c with ex:=(C,oC)::c.ex}) o.ex J A.2).st (s:=sh s M tk) u1 u3 S' rv fun h3 R S3 t3=>?_);have hC:=S3.nw (C,oC) (d9 _ (.head _));refine cJ m' (hn.ns hC.1) (fun h4 M_=>?_);refine aZ (Cx.aC.but (Cx.aC.jk (c:=c) S3 hloc) M_ (fun p hp=>(jx hp).elim (fun hp e=>S3.jl (C,oC) (.head _) p hp e.symm) (hx p)) hC.2.1 hC.2.2 hC.1 (nB hn)) fun Sw tw=>H.ss (s:=sh s h4 R) o J A t2 Sw (fM.then p (g.trans (.cQ (aX.trans t3 tw))))
    have ex:=(fj RS).symm.trans ex;injection ex with q1 q2 q3 q4;rw [q1,q2,q3,q4];unfold evalThenUse;exact bP (wpAny_mono hw (fun X X h=>dY (dY h)) fun X X h=>h)
  |_=>exact p.elim
end
end
section
variable {α β:Type}
theorem ux {xs:List Str}:∀{vs:List α} {x:Str},vs.length=xs.length→x∈xs→((xs.zip vs).lookup x).isSome=true:=by
 induction xs with
 |nil=>exact fun Z h=>nomatch h
 |cons y xs ih=>
  intro vs x B h;cases vs with
  |nil=>exact nomatch B
  |cons v vs=>
  rw [List.zip_cons_cons,List.lookup_cons];cases e:x==y with
  |true=>rfl
  |false=>exact ih (Nat.succ.inj B) ((dP h).resolve_left fun q=>by rw [q,beq_self_eq_true] at e;exact nof e.symm)
theorem rO {f g:α→Option β}:∀{l:List α},(∀x∈l,f x=g x)→l.filterMap f=l.filterMap g
 |[],_=>rfl
 |x::l,h=>by rw [List.filterMap_cons,List.filterMap_cons,h x (.head _),rO fun y D=>h y (.tail _ D)]
theorem zip_map {xs:List Str}:∀{vs:List α},vs.length=xs.length→xs.Nodup→(xs.filterMap fun n=>((xs.zip vs).lookup n).map (n,·))=xs.zip vs:=by
 induction xs with
 |nil=>intro vs Z Z;cases vs<;>rfl
 |cons x xs ih=>
  intro vs B I;cases vs with
  |nil=>exact nomatch B
  |cons v vs=>
  refine aZ (List.nodup_cons.mp I) fun H E=>?_;rw [List.zip_cons_cons,List.filterMap_cons];simp only [List.lookup_cons,beq_self_eq_true,Option.map_some];congr 1
  rw [rO (g:=fun n=>((xs.zip vs).lookup n).map (n,·)) fun y D=>?_]
  ·exact ih (Nat.succ.inj B) E
  ·rw [show (y==x)=false from beq_eq_false_iff_ne.mpr fun e=>by subst e;exact H D]
theorem qe {N:Type} {l:List α} {b:β} {F:α→β→Sem (ForInStep β)} {G:β→Sem N} {r:Sem N} (h:l=[]) (e:G b=r):(forIn l b F>>=G)=r:=by subst h;exact e
noncomputable abbrev J2 (p:Arguments):Arguments:=⟨[],p.args,none,[],p.kw_defaults,none,p.defaults⟩
theorem rC {F4 qn:Str} {p:Arguments} {body:List Stmt} {sc:Scope} {dc pm cd ct:Value} {an:Option Addr} {vs:zV} (I:(p.args.map (·.arg)).Nodup) (B:vs.length=p.args.length):bindArgs (fnX F4 qn (J2 p) body sc [] .none .none dc pm an cd ct) ⟨vs,[]⟩=pure ((p.args.map (·.arg)).zip vs):=by
 have A:vs.length=(p.args.map (·.arg)).length:=by rw [List.length_map];exact B
 have hd:∀k,List.drop k ([]:zV)=[]:=fun k=>List.drop_nil;have hm:((p.args.map (·.arg)).take ((p.args.map (·.arg)).length -(List.drop (0 -(p.args.map (·.arg)).length) ([]:zV)).length)).filter (fun n=>(((p.args.map (·.arg)).zip vs).lookup n).isNone)=[]:=by rw [hd,List.filter_eq_nil_iff];intro x O;have:=ux A (List.mem_of_mem_take O);rw [Option.isNone_iff_eq_none];exact fun e=>by rw [e] at this;exact nof this
 unfold bindArgs;refine (aS (show ¬(decide (vs.length>(p.args.map (·.arg)).length)&&true)=true by rw [A];simp)).trans<|(aS (show ¬(!(((p.args.map (·.arg)).take ((p.args.map (·.arg)).length -(List.drop (0 -(p.args.map (·.arg)).length) ([]:zV)).length)).filter (fun n=>(((p.args.map (·.arg)).zip vs).lookup n).isNone)).isEmpty)=true by rw [hm];exact fun h=>nomatch h)).trans ?_
 refine qe ((congrArg _ (hd _)).trans List.zip_nil_right)<|congrArg (pure:List (Str×Value)→Sem (List (Str×Value))) ((congrArg (List.filterMap _) (List.append_nil _)).trans (zip_map A I))
theorem HG {a b:α} {c d:β} (h:a=b) (k:c=d):(a,c)=(b,d):=h▸k▸rfl
theorem J3 {p:Arguments} (M:p.posonlyargs=[]) (L:p.kwonlyargs=[]) (J:p.vararg=none) (C:p.kwarg=none):p=J2 p:=by cases p;cases M;cases L;cases J;cases C;rfl
theorem DR {fd:FuncData} {body:List Stmt} (U:fd.globals=mainGlobals) (T:fd.builtins=builtinsNs) (S:fd.closure=[]) (R:fd.defaults= .none) (Q:fd.kwdefaults= .none) (P:fd.body= .stmts body) (M:fd.params.posonlyargs=[]) (L:fd.params.kwonlyargs=[]) (J:fd.params.vararg=none) (C:fd.params.kwarg=none):fd=fnX fd.name fd.qualname (J2 fd.params) body fd.scope [] .none .none fd.doc fd.pyModule fd.annotations fd.code fd.closureTuple:=
 congrArg (fun t:Addr×Addr×List (Str×Addr)×Value×Value×FuncBody×Arguments=>({name:=fd.name,qualname:=fd.qualname,params:=t.2.2.2.2.2.2,body:=t.2.2.2.2.2.1,scope:=fd.scope,globals:=t.1,closure:=t.2.2.1,defaults:=t.2.2.2.1,kwdefaults:=t.2.2.2.2.1,doc:=fd.doc,pyModule:=fd.pyModule,annotations:=fd.annotations,code:=fd.code,closureTuple:=fd.closureTuple,builtins:=t.2.1}:FuncData)) (HG U (HG T (HG S (HG R (HG Q (HG P (J3 M L J C)))))))
noncomputable def qy:List Nat→List Arg→Bool
 |[],l=>e7 l
 |x::xs,l=>match l with|a::l=>Dv x a.arg&&qy xs l|[]=>false
noncomputable def jR:Value→Bool
 | .none=>true
 |_=>false
noncomputable def depth:Nat:=60
noncomputable def TJ (K:Frag) (fd:FuncData) (body:List Stmt) (mf:MF) (tp:Bool):Bool:=
 (tp||!oU fd.scope)&&(
 (Nat.beq fd.globals mainGlobals&&(Nat.beq fd.builtins builtinsNs&&(e7 fd.closure&&(codeIn K fd.code fd.qualname&&(jR fd.defaults&&(jR fd.kwdefaults&&(e7 fd.params.posonlyargs&&(e7 fd.params.kwonlyargs&&(fd.params.vararg.isNone&&fd.params.kwarg.isNone)))))))))&&
 ((qy mf.ps fd.params.args&&((mf.ps.all fun x=>decide (fd.scope.names.lookup (nm x)=some .local)||(decide (fd.scope.names.lookup (nm x)=some .cell)&&Ah mf.cv x))&&(decide mf.ps.Nodup&&(!fd.scope.isCoroutine&&(!fd.scope.isGenerator&&decide (fd.scope.kind= .function))))))&&
 (decide (((fd.scope.names.filter fun x=>x.2== .cell).map (·.1)).reverse=mf.cv.map nm)&&((mf.cv.all fun x=>decide (x<j5.length)&&decide (fd.scope.names.lookup (nm x)=some .cell))&&(decide mf.cv.Nodup&&cF (eV K fd.scope depth) mf.body body)))))
noncomputable def uQ (b:FuncBody):Option (List Stmt):=match b with
 | .stmts l=>some l
 |_=>none
noncomputable def Bq (d:Data):Option FuncData:=match d with
 | .func fd=>some fd
 |_=>none
noncomputable def Mz (K:Frag) (f:Addr) (mf:MF) (tp:Bool):Bool:=bM (K.lookup f) fun o=>bM (Bq o.data) fun fd=>bM (uQ fd.body) fun body=>TJ K fd body mf tp
theorem Cg (w:World):(RK.all fun p=>Mz (zk w) p.1 p.2 false)=true:=by kernel_rfl
theorem CI (w:World):Mz (zk w) 759 gx true=true:=by kernel_rfl
end
theorem jo:∀{xs:List Nat} {l:List Arg},qy xs l=true→l.map (·.arg)=xs.map nm∧l.length=xs.length∧∀x∈xs,x<j5.length
 |[],l,h=>by rw [bg h];exact eo rfl rfl (fun Z h=>nomatch h)
 |x::xs,l,h=>by
  cases l with
  |nil=>exact nof h
  |cons a l=>refine af (a:=Dv x a.arg) h fun A C=>ju A fun D e=>eg (jo C) fun Q P O=>eo (by rw [List.map_cons,List.map_cons,Q,e]) (congrArg (·+1) P) (fun y E=>(dP E).elim (fun z=>z▸D) (O y))
theorem vW {v:Value} (h:jR v=true):v= .none:=by
 cases v with
 |none=>rfl
 |_=>exact nof h
theorem iR {f:Nat→Str}:∀{l:List Nat},l.Nodup→(∀x∈l,∀y∈l,f x=f y→x=y)→(l.map f).Nodup
 |[],_,_=> .nil
 |x::l,T,h=>by refine aZ (List.nodup_cons.mp T) fun A C=>?_;rw [List.map_cons,List.nodup_cons];refine ⟨fun q=>?_,iR C fun a U b hb=>h a (.tail _ U) b (.tail _ hb)⟩;refine az (List.mem_map.mp q) fun y E e=>?_;cases h y (.tail _ E) x (.head _) e;exact A E
theorem tu {d:Data} {fd:FuncData} (h:Bq d=some fd):d= .func fd:=by
 cases d with
 |func f=>exact congrArg Data.func (bw h)
 |_=>exact aW h
theorem pF {b:FuncBody} {l:List Stmt} (h:uQ b=some l):b= .stmts l:=by
 cases b with
 |stmts f=>exact congrArg FuncBody.stmts (bw h)
 |_=>exact aW h
structure HN (w:World) (f:Addr) (mf:MF) (name qual:Str) (params:Arguments) (body:List Stmt) (scope:Scope) (doc pm:Value) (an:Option Addr) (B ct:Value) (fo:Obj) (tp:Bool):Prop where
 tp:tp=true∨oU scope=false
 ho:(zk w).lookup f=some fo
 hd:fo.data= .func (fnX name qual params body scope [] .none .none doc pm an B ct)
 cd:codeIn (zk w) B qual=true
 bd:∀s vs,vs.length=mf.ps.length→BindsTo s (fnX name qual params body scope [] .none .none doc pm an B ct) ⟨vs,[]⟩ ((mf.ps.map nm).zip vs)
 ps:∀x∈mf.ps,x<j5.length∧(scope.names.lookup (nm x)=some .local∨(scope.names.lookup (nm x)=some .cell∧x∈mf.cv))
 nd:mf.ps.Nodup
 co:scope.isCoroutine=false
 gn:scope.isGenerator=false
 kd:scope.kind= .function
 cl:((scope.names.filter fun x=>x.2== .cell).map (·.1)).reverse=mf.cv.map nm
 cv:∀x∈mf.cv,x<j5.length∧scope.names.lookup (nm x)=some .cell
 cn:mf.cv.Nodup
 tr:cF (eV (zk w) scope depth) mf.body body=true
theorem H8 {F4 qn:Str} {p:Arguments} {body:List Stmt} {sc:Scope} {dc pm cd ct:Value} {an:Option Addr} {xs:List Nat} (H:qy xs p.args=true) (G:xs.Nodup) (s:Shared) (vs:zV) (S:vs.length=xs.length):BindsTo s (fnX F4 qn (J2 p) body sc [] .none .none dc pm an cd ct) ⟨vs,[]⟩ ((xs.map nm).zip vs):=by refine eg (jo H) fun n1 R N=>?_;rw [←n1];refine BindsTo.of_eq (rC ?_ (S.trans R.symm));rw [n1];exact iR G fun x D y E e=>gW (N x D) (N y E) e
theorem zp {w:World} {f:Addr} {mf:MF} {tp:Bool} (h:Mz (zk w) f mf tp=true):∃name qual params body scope doc pm an B ct fo,HN w f mf name qual params body scope doc pm an B ct fo tp:=
 au h fun o ho h=>au h fun fd J h=>au h fun body hb h=>af h fun I h=>af h fun A h=>af h fun C F=>af A fun a1 A=>af A fun a2 A=>af A fun a3 A=>af A fun u A=>af A fun t A=>af A fun r A=>af A fun n A=>af A fun m A=>af A fun k M=>af C fun H C=>af C fun j C=>af C fun G C=>af C fun i C=>af C fun g c=>af F fun Z F=>af F fun Y F=>af F fun X V=>⟨_,_,_,body,fd.scope,_,_,_,_,_,o,⟨c7 I .inl fun e=> .inr (bu e),ho,(tu J).trans (congrArg Data.func (DR (ie a1) (ie a2) (bg a3) (vW t) (vW r) (pF hb) (bg n) (bg m) (By k) (By M))),u,H8 H (dR G),fun x D=>⟨(jo H).2.2 x D,c7 (gh j x D) (fun e=> .inl (dR e)) fun e=>af e fun L K=> .inr ⟨dR L,ni K⟩⟩,dR G,bu i,bu g,dR c,dR Z,fun x D=>af (gh Y x D) fun L K=>⟨dR L,dR K⟩,dR X,V⟩⟩
theorem E5 (w:World) {f:Addr} {mf:MF} (h:aF PG.fn f=some mf):∃name qual params body scope doc pm an B ct fo,HN w f mf name qual params body scope doc pm an B ct fo false:=zp (gh (Cg w) (f,mf) (er h))
section
section
variable {w:World} {c:Cx} {W:Wd} {σ:ah} {ls:Lc} {s:Shared} {n k:Nat} {q:zT} {z:Bool} {av:Nat} {rx:Bool→Nat→zT} (H:ic w n q) (o:c.Ok w (n+1)) (S:c.aC w W σ ls s.heap)
include H o S
theorem G7 (A:∀z R,yG w n (rx z R)) {Q E:zQ} {m:ME} {x:PySem.Expr} (t:cD (zk w) k c.ev.scope m x=true) (p:ao (fk w c W σ ls s Q E) (step PG z av q rx (.e m) σ ls)):zw w c (eval x c.ev) Q E s:=by
 cases k with
 |zero=>exact nof t
 |succ k=>
  cases m with
  |l y=>exact KG (z:=z) (av:=av) (q:=q) (rx:=rx) o.down t S p
  |lc y=>exact GP (z:=z) (av:=av) (q:=q) (rx:=rx) o.down t S p
  |c d=>exact Kz (z:=z) (av:=av) (q:=q) (rx:=rx) t S p
  |g d=>exact KC (z:=z) (av:=av) (q:=q) (rx:=rx) o.down t S p
  |bX e a=>exact GH (z:=z) (av:=av) (rx:=rx) H o.down S t p
  |sub e i=>exact Dd (z:=z) (av:=av) (rx:=rx) H o.down S t p
  |n_ e b=>exact A9 (z:=z) (av:=av) (rx:=rx) H o.down S t p
  |qT e b=>exact A_ (z:=z) (av:=av) (rx:=rx) H o.down S t p
  |bin op a b=>exact CY (z:=z) (av:=av) (rx:=rx) H o.down S t p
  |neg e=>exact C9 (z:=z) (av:=av) (rx:=rx) H o.down S t p
  |not e=>exact Dc (z:=z) (av:=av) (rx:=rx) H o.down S t p
  |cmp op a b=>exact A0 (z:=z) (av:=av) (rx:=rx) H o.down S t p
  |and l=>exact snd_and (z:=z) (av:=av) (rx:=rx) H o.down S t p
  |or l=>exact GQ (z:=z) (av:=av) (rx:=rx) H o.down S t p
  |ite a b d=>exact C6 (z:=z) (av:=av) (rx:=rx) H o.down S t p
  |ai l=>exact De (z:=z) (av:=av) (rx:=rx) H o.down S t p
  |lst l=>exact C8 (z:=z) (av:=av) (rx:=rx) H o.down S t p
  |dct l=>exact C0 (z:=z) (av:=av) (rx:=rx) H o.down S t p
  |call B D f as=>exact AZ (z:=z) (av:=av) (rx:=rx) H o.down S A t p
  |kU B D f as=>exact xZ (z:=z) (av:=av) (rx:=rx) H o.down S A t p
  |new C as=>exact C_ (z:=z) (av:=av) (rx:=rx) H o S t p
  |eL e m as=>exact A7 (z:=z) (av:=av) (rx:=rx) H o.down S t p
  |bm e m as=>exact GI (z:=z) (av:=av) (rx:=rx) H o.down S t p
  |len e=>exact C7 (z:=z) (av:=av) (rx:=rx) H o.down S t p
  |tupleOf e=>exact uM (z:=z) (av:=av) (rx:=rx) H o.down S t p
  |comp xs elt ig it cond fv=>exact A1 (z:=z) (av:=av) (rx:=rx) H o.down S t p
  |bad=>exact p.elim
theorem G6 {Q:Bool→Shared→Prop} {E:zQ} {m:ME} {x:PySem.Expr} (t:cD (zk w) k c.ev.scope m x=true) (p:ao (BJ w c W σ ls s Q) (step PG z av q rx (.b m) σ ls)):zw w c (isTrue x c.ev (eval x c.ev)) Q E s:=by
 cases k with
 |zero=>exact nof t
 |succ k=>exact Ky (z:=z) (av:=av) (rx:=rx) H o.down S t p
end
end
section
variable {W:Wd} {σ:ah}
section
variable {w:World} {c:Cx} {O:zP} {z:Bool} {av:Nat} {h:Heap}
theorem rz.go {D:Wd} {A:ah} {h T:Heap} {o:Option DV} {ov:Option Value} (r:rz W.ρ h o ov) (g:Go W σ h D A T):rz D.ρ T o ov:=by
 cases o with
 |none=>exact r
 |some d=>refine az r fun v e q=>?_;exact cJ v e (q.go g)
theorem Cx.aC.EL {ls:Lc} {y r k:Nat} {a:Addr} (S:c.aC w W σ ls h) (E:y<j5.length) (hk:c.ev.scope.names.lookup (nm y)=some .cell) (X:c.ev.cells.lookup (nm y)=some a) (hr:W.ρ r k=some a):c.aC w W σ (aV ls y (.aj r k)) h:=by
 refine bQ S.fr fun m F I G hm=>⟨⟨m,F,I,G,fun x d e=>?_⟩,S.nw,S.jl,S.cells⟩
 rw [dG] at e;by_cases q:y=x
 ·subst q
  rw [bk rfl] at e;cases e;exact qk E (.ref a) ⟨fun z=>(nomatch hk.symm.trans z),fun Z=>⟨a,X,rfl⟩⟩ (.aj hr)
 ·rw [aS q] at e
  exact hm x d e
noncomputable def Ip (cv:List Nat) (ls:Lc):Lc:=ls.filter fun p=>!decide (p.1∈cv)
theorem gA {cv:List Nat} {y:Nat}:∀{ls:Lc},aF (Ip cv ls) y=if y∈cv then none else aF ls y
 |[]=>(ite_self _).symm
 |p::ls=>by
  have ih:=gA (cv:=cv) (y:=y) (ls:=ls);unfold Ip at ih⊢;rw [List.filter_cons,b6];by_cases h:p.1∈cv
  ·rw [aS (by rw [gH h];exact Bool.false_ne_true),ih]
   by_cases q:p.1=y
   ·rw [bk (q▸h),bk (q▸h)]
   ·rw [aS q]
  ·rw [bk (by rw [nU h];rfl),b6,ih]
   by_cases q:p.1=y
   ·rw [bk q,bk q,aS (q▸h)]
   ·rw [aS q,aS q]
theorem Cx.aC.less {ls B:Lc} (S:c.aC w W σ ls h) (k:∀y d,aF B y=some d→aF ls y=some d):c.aC w W σ B h:=by refine bQ S.fr fun m F I G hm=>⟨⟨m,F,I,G,fun x d e=>hm x d (k x d e)⟩,S.nw,S.jl,S.cells⟩
theorem kj {R:Prop} {K:Lc→ah→RR} {cm:Str→Option Value}:∀{cv:List Nat} {cs:List (Str×Addr)} {cells:zA} {W:Wd} {σ:ah} {ls:Lc},CellsAre cm cs cells→cs.map (·.1)=cv.map nm→(∀x∈cv,x<j5.length∧c.ev.scope.names.lookup (nm x)=some .cell)→cv.Nodup→(cells.map (·.1)).Nodup→(∀p∈cells,c.ev.locals≠p.1)→
  (∀p∈cs,c.ev.cells.lookup p.1=some p.2)→({c with ex:=cells}:Cx).aC w W σ (Ip cv ls) h→(∀x∈cv,rz W.ρ h (aF ls x) (cm (nm x)))→ao O (jj z av cv ls σ K)→
  (∀B A D,({c with ex:=[]}:Cx).aC w D A B h→Go W σ h D A h→ao O (K B A)→R)→R
 |[],cs,cells,W,σ,ls,ca,he,_,_,_,_,_,S,_,p,f=>by
  cases ca with
  |nil=>exact f ls σ W (Cx.aC.less (c:={c with ex:=[]}) S fun y d e=>by rw [gA];exact e) .refl p
  |cons=>exact nomatch he
 |x::xs,cs,cells,W,σ,ls,ca,he,J,V,hd,G,Q,S,P,p,f=>by
  cases ca with
  |nil=>exact nomatch he
  | @cons n a o cs cells ho ca=>
   injection he with N Y;have N:n=nm x:=N;subst N;refine aZ (List.nodup_cons.mp V) fun M L=>aZ (List.nodup_cons.mp hd) fun hd1 hd2=>gV p fun g hg p=>l6 p fun p=>?_;obtain ⟨D,j,U,e'⟩:=Cx.aC.qb (c:={c with ex:=cells}) (b:= .var (aF ls x)) S (fun q C e=>hd1 (List.mem_map.mpr ⟨q,C,e⟩)) (G _ (.head _)) hg (fun q=>by refine iC q fun u vs n e'=>?_;exact nomatch ho.symm.trans e') fun D e le=>⟨_,by rw [e];exact ho,by
    have:=P x (.head _);cases C:aF ls x with
    |none=>rw [C] at this;exact this
    |some d=>rw [C] at this;refine az this fun v e q=>?_;exact ⟨v,e,q.mono le aX.refl'⟩⟩
   refine kj ca Y (fun y E=>J y (.tail _ E)) L hd2 (fun q C=>G q (.tail _ C)) (fun q C=>Q q (.tail _ C)) (Cx.aC.less (c:={c with ex:=cells}) (Cx.aC.EL (c:={c with ex:=cells}) j (J x (.head _)).1 (J x (.head _)).2 (Q _ (.head _)) e') fun y d e=>?_) (fun y E=>?_) p fun B A Z i l p=>f B A Z i (U.trans l) p
   ·rw [gA] at e
    by_cases q:y∈xs
    ·rw [bk q] at e;exact aW e
    ·rw [aS q,dG] at e
     rw [dG];by_cases H:x=y
     ·rw [bk H] at e⊢;exact e
     ·rw [aS H] at e⊢
      rw [gA,aS fun z=>(dP z).elim (fun z=>H z.symm) q];exact e
   rw [dG,aS (show ¬x=y from fun e=>M (by rw [e];exact E))];exact rz.go (P y (.tail _ E)) U
end
end
section
variable {K:Str→Option NameKind}
theorem mQ {y:Str}:∀{l:List (Str×Value)} {m:Str→Option Value},(∀p∈l,p.1≠y)→bindL K l m y=m y
 |[],_,_=>rfl
 |(n,v)::l,m,h=>by
  unfold bindL;rw [mQ fun p A=>h p (.tail _ A)];by_cases q:K n=some .local
  ·rw [bk q];exact aS fun e=>h (n,v) (.head _) e.symm
  ·rw [aS q]
theorem gK {y:Str}:∀{l:List (Str×Value)} {m:Str→Option Value},(∀p∈l,p.1≠y)→bindC K l m y=m y
 |[],_,_=>rfl
 |(n,v)::l,m,h=>by
  unfold bindC;rw [gK fun p A=>h p (.tail _ A)];by_cases q:K n=some .local
  ·rw [bk q]
  ·rw [aS q];exact aS fun e=>h (n,v) (.head _) e.symm
theorem kg {ρ:gJ} {h:Heap} {xs:List Nat}:∀{ds:zL} {vs:zV} {bs:Lc} {m cm:Str→Option Value},xs.Nodup→(∀x∈xs,x<j5.length)→eS xs ds=some bs→aO ρ h ds vs→∀x d,aF bs x=some d→
  x∈xs∧∃v,(K (nm x)=some .local→bindL K ((xs.map nm).zip vs) m (nm x)=some v)∧(K (nm x)≠some .local→bindC K ((xs.map nm).zip vs) cm (nm x)=some v)∧aP ρ h d v:=by
 induction xs with
 |nil=>intro Z Z Z Z Z Z Z z Z x d e;rw [(nR z).2] at e;exact aW e
 |cons y xs ih=>
  intro Z Z Z m cm I D z hr x d e;refine mF z fun d0 ds bs hd hz hb=>?_;subst hd hb;refine aZ (List.nodup_cons.mp I) fun F E=>hr.aQ fun C vs H G=>?_;rw [List.map_cons,List.zip_cons_cons];rw [b6] at e;by_cases q:y=x
  ·subst q
   rw [bk rfl] at e;cases e;have hm:∀p∈(xs.map nm).zip vs,p.1≠nm y:=fun p A e=>by refine az (List.mem_map.mp (List.of_mem_zip (a:=p.1) (b:=p.2) A).1) fun n B e'=>F (gW (D n (.tail _ B)) (D y (.head _)) (e'.trans e)▸B)
   refine ⟨.head _,C,fun k=>?_,fun k=>?_,H⟩
   ·unfold bindL;rw [mQ hm,bk k];exact bk rfl
   ·unfold bindC;rw [gK hm,aS k];exact bk rfl
  ·rw [aS q] at e
   unfold bindL bindC;obtain ⟨N,v,M,L,J⟩:=ih (m:=if K (nm y)=some .local then fun z=>if z=nm y then some C else m z else m) (cm:=if K (nm y)=some .local then cm else fun z=>if z=nm y then some C else cm z) E (fun z hz=>D z (.tail _ hz)) hz G x d e;exact ⟨.tail _ N,v,M,L,J⟩
end
section
theorem fT:∀{names:List (Str×NameKind)} {n:Nat} {acc:List (Str×Addr)},(cellsFrom n names acc).map (·.1)=((names.filter fun x=>x.2== .cell).map (·.1)).reverse++acc.map (·.1)
 |[],_,_=>rfl
 |(x,k)::r,n,acc=>by
  unfold cellsFrom;rw [List.filter_cons];by_cases h:(k== .cell)=true
  ·rw [bk h,bk h,fT];simp
  ·rw [aS h,aS h,fT]
theorem lookup_some {α:Type} {x:Str}:∀{l:List (Str×α)},x∈l.map (·.1)→(l.lookup x).isSome=true
 |[],h=>nomatch h
 |(y,a)::l,h=>by
  rw [List.lookup_cons];cases e:x==y with
  |true=>rfl
  |false=>exact lookup_some ((dP h).resolve_left fun q=>by rw [show x=y from q,beq_self_eq_true] at e;exact nof e.symm)
theorem kR:∀{xs:List Nat} {ds:zL} {bs:Lc} {x:Nat},eS xs ds=some bs→aF bs x=none→x∉xs
 |[],_,_,_,_,_=>fun h=>nomatch h
 |y::xs,ds,bs,x,z,e=>mF z fun d0 ds bs hd hz hb=>by
  subst hd hb;rw [b6] at e;by_cases q:y=x
  ·rw [bk q] at e;exact nomatch e
  ·rw [aS q] at e
   exact fun h=>(dP h).elim (fun h=>q h.symm) (kR hz e)
section
variable {w:World} {c:Cx} {W M:Wd} {σ C:ah} {ls:Lc} {s:Shared} {E:Heap} {n:Nat} {q:zT} {z:Bool} {av:Nat} {rx:Bool→Nat→zT}
noncomputable abbrev qg (W:Wd) (h:Heap):Heap:=hideAll h (W.led.map (·.1))
theorem jm (S:c.aC w W σ ls s.heap) {b:Addr} {o:Obj} (e:c.g.get? b=some o):(qg W s.heap).get? b=some o:=by refine az S.fr fun m F Z=>hideAll_get _ (F.keep _ _ e) fun q=>az (List.mem_map.mp q) fun p A G=>?_;subst G;rw [(S.nw p (dS _ A)).2.2] at e;exact aW e
theorem qh (S:c.aC w W σ ls s.heap):aX s.heap (qg W s.heap):=fun x o K e=>hideAll_get _ e fun q=>by refine az (List.mem_map.mp q) fun p A G=>?_;subst G;rw [(S.nw p (dS _ A)).1] at e;cases e;exact S.cells.cls p A K
theorem vJ (S:c.aC w W σ ls s.heap):∃o,(qg W s.heap).get? c.L=some o∧s.heap.get? c.L=some o∧∃es J,o.data= .dict es J:=by
 refine az S.fr fun m F Z=>xo F.ns fun N es J I T Z=>⟨N,hideAll_get _ I fun q=>?_,I,es,J,T⟩
 refine az (List.mem_map.mp q) fun p A e=>(S.nw p (dS _ A)).2.1 e
theorem Cx.back (S:c.aC w W σ ls s.heap) (kp:∀b o,(qg W s.heap).get? b=some o→b≠c.L→E.get? b=some o) (up:(qg W s.heap).UpToSlots E) (nw:∀p∈M.led,E.get? p.1=some p.2∧(qg W s.heap).get? p.1=none) (ce:j6 w M C E) (e:Ext W σ M C):c.aC w M C ls E∧aX s.heap E:=by
 refine mZ (vJ S) fun N D I IB f R=>bQ S.fr fun m F Y d hm=>?_;have t2:aX s.heap E:=fun x o K e=>kp x o (qh S x o K e) fun q=>by subst q;rw [I] at e;cases e;refine iC K fun u vs n e'=>nomatch R.symm.trans e'
 have P:(qg W s.heap).Ns c.L m:=by refine t_ F.ns fun X es J U r=>?_;cases I.symm.trans U;exact Fj N es J D r
 have Q:c.g.get? c.L=none:=Heap.get?_none_of_le F.above;have hex:∀p∈c.ex,(qg W s.heap).get? p.1=some p.2:=fun p A=>hideAll_get _ (S.nw p (d9 _ A)).1 fun q=>by refine az (List.mem_map.mp q) fun q' O e=>S.jl p A q' O e.symm
 refine ⟨⟨⟨m,⟨up.ns P,fun b o e=>kp b o (jm S e) fun q=>by subst q;exact aW (Q.symm.trans e),F.above⟩,Y,d,j8.mono hm e.le t2⟩,fun p A=>?_,fun p A q Z e=>?_,ce⟩,t2⟩
 ·rcases jx A with A|A
  ·refine eo ((nw p A).1) (fun e=>?_) ?_
   ·rw [←e,(nw p A).2] at D;exact aW D
   ·cases q:c.g.get? p.1 with
    |none=>rfl
    |some o=>exact aW ((nw p A).2.symm.trans (jm S q))
  ·have:=S.nw p (d9 _ A)
   exact ⟨kp _ _ (hex p A) this.2.1,this.2⟩
 ·have V:=(nw q Z).2
  rw [←e,hex p A] at V;exact aW V.symm
theorem jN {base B h:Heap}:∀{l:List Env},h.FunFrames base l→(∀env∈l,∀a,env.frame=some a→B.get? a=none)→h.FunFrames B l
 |[],_,_=>trivial
 |env::_,h,H=>⟨h.1,h.2.1.imp fun L x=>x.imp fun o x=>⟨x.1,H env (.head _) L x.1,x.2.2.1,x.2.2.2⟩,jN h.2.2 fun e he=>H e (.tail _ he)⟩
end
end
section
variable {ev:Env}
section
variable {w:World} {c:Cx} {W O:Wd} {σ J:ah} {ls:Lc} {s:Shared} {I:Heap} {n:Nat} {q:zT} {z:Bool} {av:Nat} {rx:Bool→Nat→zT}
noncomputable abbrev Cx.sub (c:Cx) (W:Wd) (h:Heap) (ev:Env) (ex:zA):Cx:=
 {dp:=c.dp+1,un:=c.un+3,gd:=c.gd,outer:=c.fe::c.outer,base:=c.base,g:=qg W h,L:=h.objs.size,fe:=ev,ev:=ev,ex:=ex,ml:=fun Z=>True}
theorem yQ {BF:Lc} (S:c.aC w W σ ls s.heap) (Z:(c.sub W s.heap ev []).aC w O J BF I) (e:Ext W σ O J):c.aC w O J ls I∧aX s.heap I:=by refine az Z.fr fun m F u=>Cx.back S (fun b o e u=>F.keep b o e) (Heap.UpToSlots.of_keeps F.keep) (fun p D=>⟨(Z.nw p (dS _ D)).1,(Z.nw p (dS _ D)).2.2⟩) Z.cells e
theorem Mx (o:c.Ok w n) (S:c.aC w W σ ls s.heap) (hout:c.outer=[]) {b:Addr} (hb:b≠c.L):∀e∈(c.sub W s.heap ev []).outer,e.frame≠some b:=fun e he q=>by
 have he:e∈c.fe::c.outer:=he;rw [hout] at he;cases he with
 |head=>exact hb (bw (q.symm.trans o.G.hf))
 |tail _ he=>exact nomatch he
theorem EG (o:c.Ok w n) {h₀:Heap} (S:c.aC w W σ ls s.heap) (Z:(c.sub W s.heap ev []).yF w O J h₀ I) (e:Ext W σ O J) (hout:c.outer=[]):c.aC w O J ls I∧aX s.heap I:=by refine jH Z fun B U u st up=>Cx.back S (fun b C e hb=>st _ _ (U.kp b C e (Mx o S hout hb))) up (fun p D=>?_) (U.cells.keep fun x C u e=>st _ _ e) e;have:=U.led p (dS _ D);exact ⟨st _ _ this.1,this.2.2⟩
theorem jF {cm:Str→Option Value} {cs:List (Str×Addr)} {cells:zA} (Y:CellsAre cm cs cells):cells.map (·.1)=cs.map (·.2):=by
 induction Y with
 |nil=>rfl
 |cons _ _ ih=>rw [List.map_cons,List.map_cons,ih]
theorem EF (o:c.Ok w (n+1)) {tk':Nat} {v:Value} {E:zQ} {ee:zQ} (S:c.aC w W σ ls s.heap) (hev:ev.frame=some s.heap.objs.size) (hk:ev.scope.kind= .function) (Z:(c.sub W s.heap ev []).aC w O J [] I) (M:(c.sub W s.heap ev []).Made O I v) (e:Ext W σ O J)
  (hE:∀P v,c.Tr w O J s.heap P v→E v (sh s P tk')):wpAny (M0 w) (c.sub W s.heap ev []).A (leaving ev v) (fun u s''=>E v s'') ee (sh s I tk'):=by
 refine p9 M fun x t ob Ir hx hxc hxd Vg Vh=>?_;subst Ir;refine az Z.fr fun m F u=>?_;obtain ⟨⟨A₀,B⟩,X,T,hf,hke⟩:=o.G;refine az S.fr fun m0 F0 u=>zf (groundX (R:=fun u u=>True) (A:=c.A) B F0 (fun p D=>S.nw p (dS _ D)) rfl hf hke) fun u BG st u=>?_;have K':=pushX (env:=ev) (A:=c.A) BG F hev hk;have hin:∀env∈ev::c.fe::c.outer,∀b,env.frame=some b→b∈x::(ev::c.fe::c.outer).filterMap (·.frame):=fun env he b hb=> .tail _ (List.mem_filterMap.mpr ⟨env,he,hb⟩);have hB:∀b C,I.get? b=some C→b≠x→(∀e∈ev::c.fe::c.outer,e.frame≠some b)→(hideAll I (x::(ev::c.fe::c.outer).filterMap (·.frame))).get? b=some C:=fun b C e hx he=>hideAll_get _ e fun q=>(dP q).elim hx fun q=>by refine az (List.mem_filterMap.mp q) fun env V P=>he env V P
 have US:∀b C,(qg W s.heap).get? b=some C→b≠x:=fun b C e q=>aW (Vg.symm.trans (q▸e));have hnf:∀b C,(qg W s.heap).get? b=some C→ev.frame≠some b:=fun b C e q=>by cases hev.symm.trans q;have:(qg W s.heap).get? s.heap.objs.size=none:=Heap.get?_none_of_le (Nat.le_of_eq (hideAll_size _ _));rw [this] at e;exact aW e
 have hfr:∀env∈c.fe::c.outer,∀b,env.frame=some b→∃C,(qg W s.heap).get? b=some C∧∃es ep,C.data= .dict es ep:=fun env he b hb=>by
  rcases dP he with rfl|he
  ·cases hb.symm.trans hf
   refine mZ (vJ S) fun oL V u es ep P=>⟨oL,V,es,ep,P⟩
  ·refine dB (funFrames_in B.frames env he) fun L C V P=>?_
   cases hb.symm.trans V;exact cJ C (jm S P) (o.G.N env he _ C V P)
 have MZ:∀p∈O.led,∀env∈ev::c.fe::c.outer,env.frame≠some p.1:=fun p D env he q=>by
  have D:=Z.nw p (dS _ D);rcases dP he with rfl|he
  ·exact D.2.1 (bw (q.symm.trans hev))
  ·refine az (hfr env he _ q) fun C ho' u=>?_
   rw [D.2.2] at ho';exact aW ho'
 have MX:∀b C,(qg W s.heap).get? b=some C→(∀e∈c.fe::c.outer,e.frame≠some b)→(hideAll I (x::(ev::c.fe::c.outer).filterMap (·.frame))).get? b=some C:=fun b C e hn=>hB b C (F.keep b C e) (US b C e) fun env he=>(dP he).elim (fun q=>q▸hnf b C e) (hn env);have UQ:c.g.get? c.L=none:=Heap.get?_none_of_le F0.above;have hex:∀p∈c.ex,(qg W s.heap).get? p.1=some p.2:=fun p D=>hideAll_get _ (S.nw p (d9 _ D)).1 fun q=>by refine az (List.mem_map.mp q) fun q' hq' e=>S.jl p D q' hq' e.symm
 have Va:∀b C,(C.cls= .type "tuple" ∧∃vs n,C.data= .seq vs n)→(qg W s.heap).get? b=some C→∀e∈c.fe::c.outer,e.frame≠some b:=fun b C hc e env he q=>by refine iC hc fun u vs n hd=>?_;obtain ⟨o2,P,es,ep,h3⟩:=hfr env he b q;cases e.symm.trans P;exact nomatch h3.symm.trans hd
 refine wpAny_leaving_firstW (base:=hideAll I (x::(ev::c.fe::c.outer).filterMap (·.frame))) rfl (jN K'.frames fun env he a ha=>hideAll_none _ (hin env he a ha)) hev hx (fun b C e=>of_hideAll _ e) (hideAll_none _ (.head _)) hxd rfl rfl fun P hL=>zf hL fun k1 k2 k3 k4=>hE P _ ⟨x,_,.ref t,rfl,⟨k1,hideAll_none _ (.head _),k2.2.2,hxc▸k3⟩,⟨Z.cells.keep fun b C hc e=>hB b C e (fun q=>?_) fun env he q=>?_,fun p D=>?_,fun p D q hq e=>?_,fun b C e hn=>MX b C (jm S e) fun env he q=>?_⟩,fun b C hc e=>MX b C (qh S b C hc e) (Va b C hc (qh S b C hc e)),(Heap.UpToSlots.of_keeps fun b C e=>F.keep b C (jm S e)).trans k4⟩
 ·subst q
  refine iC hc fun u vs n hd=>?_;cases e.symm.trans hx;exact nomatch hd.symm.trans hxd
 ·rcases dP he with rfl|he
  ·cases hev.symm.trans q
   refine xo F.ns fun oL es ep hL MP u=>iC hc fun u vs n hd=>?_;cases e.symm.trans hL;exact nomatch hd.symm.trans MP
  ·obtain ⟨o2,h2',es,ep,h3⟩:=hfr env he b q
   cases e.symm.trans (F.keep _ _ h2');refine iC hc fun u vs n hd=>nomatch h3.symm.trans hd
 ·rcases jx D with D|D
  ·have hN:=Z.nw p (dS _ D)
   refine eo (hB _ _ hN.1 (Vh p (dS _ D)) (MZ p D)) (fun e=>?_) ?_
   ·refine az (vJ S) fun oL V u=>?_
    rw [←e,hN.2.2] at V;exact aW V
   ·cases q:c.g.get? p.1 with
    |none=>rfl
    |some C=>exact aW (hN.2.2.symm.trans (jm S q))
  ·have hN:=S.nw p (d9 _ D)
   refine ⟨MX _ _ (hex p D) fun env he q=>?_,hN.2⟩;rcases dP he with rfl|he
   ·exact hN.2.1 (bw (q.symm.trans hf))
   ·refine dB (funFrames_in B.frames env he) fun L C V P=>?_
    cases q.symm.trans V;exact aW (hN.2.2.symm.trans P)
 ·have V:=(Z.nw q (dS _ hq)).2.2
  rw [←e,hex p D] at V;exact aW V.symm
 ·rcases dP he with rfl|he
  ·cases q.symm.trans hf
   exact aW (UQ.symm.trans e)
  ·exact hn env he q
theorem step_call (H:ic w n q) {l₀:Lc} {R:Result→Shared→Prop} {f:Addr} {ds:zL} {vs:zV} (o:c.Ok w (n+1)) (S:c.aC w W σ ls s.heap) (rv:aO W.ρ s.heap ds vs) (p:ao (fk w c W σ ls s (fun v s'=>R (.ok (.ret v)) s') (fun v s'=>R (.error v) s')) (step PG z av q rx (.call f ds) σ l₀)):codeAny (M0 w) c.A (.call (.ref f) ⟨vs,[]⟩) R s:=by
 refine eT p fun mf UY p=>eT p fun bs HC p=>?_;obtain ⟨name,qual,params,body,scope,doc,pm,an,cdv,ct,fo,K⟩:=E5 w UY;have G:=o.G;obtain ⟨⟨A₀,B⟩,X,⟨mg,mb,T⟩,hf,hke⟩:=G;refine bQ S.fr fun m F m' hl hm=>zf (groundX (R:=fun U U=>True) (A:=c.A) B F (fun p D=>S.nw p (dS _ D)) rfl hf hke) fun FG BG st U=>?_;have kp:∀b o,(qg W s.heap).get? b=some o→s.heap.get? b=some o:=fun b o e=>of_hideAll _ e;have X':(Mine.K w.params).In (qg W s.heap):=X.keeps st;have UW:vs.length=mf.ps.length:=rv.length.trans (nP HC);have Q:∀j,(cellsFrom j scope.names []).map (·.1)=mf.cv.map nm:=fun j=>by rw [fT,List.map_nil,List.append_nil];exact K.cl
 have hnm:(mf.cv.map nm).Nodup:=iR K.cn fun x hx y hy e=>gW (K.cv x hx).1 (K.cv y hy).1 e;refine codeAny_call_function (show c.dp<recursionLimit by have:=o.hd;exact R2 this) (kp _ _ (X' _ _ K.ho)) K.hd K.co K.gn rfl (codeRec_of (fun a o e=>kp _ _ (X' a o e)) K.cd) (K.bd s vs UW _ _ _ _ ?_);refine wpAny_newFunctionEnv_cells K.kd (fun y hy=>?_) fun env' he s' x=>?_
 ·refine az (List.mem_map.mp (List.of_mem_zip (a:=y.1) (b:=y.2) hy).1) fun j hj e=>?_
  rw [←e];rcases (K.ps j hj).2 with h|⟨h,P⟩
  ·exact .inl h
  ·refine .inr ⟨h,lookup_some ?_⟩
   rw [Q];exact List.mem_map_of_mem P
 ·subst he
  refine ⟨((T.keeps st).nolimit.keeps kp).keeps x.toInCall.keep,codeAny_func ?_⟩;refine dB x.done fun i tk xm U=>?_;subst xm;have hk₁:=x.toInCall.keep;refine az (Cl.news (h₀:=s.heap) (jd _) fun nn cc hm=>⟨x.cell nn cc (lookup_of_mem_nodup (Q _▸hnm) hm),x.above nn cc hm⟩) fun cells NC Y=>?_;have u:aX s.heap i:=fun x o U e=>hk₁ x o e;have MW:∀y∈mf.cv,rz W.ρ i (aF bs y) (bindC (envOfC qual scope s.heap.objs.size f cdv).kindOf ((mf.ps.map nm).zip vs) (fun U=>none) (nm y)):=fun y hy=>by
   cases e:aF bs y with
   |none=>refine gK fun p D q=>az (List.mem_map.mp (List.of_mem_zip (a:=p.1) (b:=p.2) D).1) fun j hj e'=>kR HC e (gW (K.ps j hj).1 (K.cv y hy).1 (e'.trans q)▸hj)
   |some d=>refine p_ (kg (K:=(envOfC qual scope s.heap.objs.size f cdv).kindOf) (m:=fun U=>none) (cm:=fun U=>none) K.nd (fun j hj=>(K.ps j hj).1) HC rv y d e) fun U v U P h3=>?_;have h4:(envOfC qual scope s.heap.objs.size f cdv).kindOf (nm y)=some .cell:=(K.cv y hy).2;exact cJ v (P (by rw [h4];exact fun q=>nomatch q)) (h3.mono .refl u)
  have S1:(c.sub W s.heap (envOfC qual scope s.heap.objs.size f cdv) cells).aC w W σ (Ip mf.cv bs) i:=by
   refine ⟨⟨_,⟨x.toInCall.ns,fun b o e=>hk₁ b o (of_hideAll _ e),Nat.le_of_eq (hideAll_size _ _)⟩,_,⟨trivial,.inl ⟨rfl,rfl⟩⟩,fun y d e=>?_⟩,fun p D=>?_,fun p D q hq e=>?_,S.cells.keep u⟩
   ·rw [gA] at e
    by_cases q:y∈mf.cv
    ·rw [bk q] at e;exact aW e
    ·rw [aS q] at e
     refine p_ (kg (K:=(envOfC qual scope s.heap.objs.size f cdv).kindOf) (m:=fun U=>none) (cm:=fun U=>none) K.nd (fun j hj=>(K.ps j hj).1) HC rv y d e) fun hy v V P h3=>?_;have RQ:scope.names.lookup (nm y)=some .local:=(K.ps y hy).2.resolve_right fun z=>q z.2;exact qk ((K.ps y hy).1) v ⟨fun U=>V RQ,fun z=>nomatch RQ.symm.trans z⟩ (h3.mono .refl u)
   ·rcases jx D with D|D
    ·have hN:=S.nw p (dS _ D)
     exact eo (hk₁ _ _ hN.1) (lM (Heap.lt_size hN.1)) (hideAll_none _ (List.mem_map_of_mem D))
    ·refine eo ((NC p D).1) ((NC p D).2.1) ?_
     cases q:(qg W s.heap).get? p.1 with
     |none=>rfl
     |some o=>exact aW ((NC p D).2.2.symm.trans (of_hideAll _ q))
   ·have V:=(NC p D).2.2
    rw [e,(S.nw q (dS _ hq)).1] at V;exact aW V.symm
  refine kj (c:=c.sub W s.heap (envOfC qual scope s.heap.objs.size f cdv) []) Y (Q _) K.cv K.cn (by rw [jF Y];exact List.pairwise_map.mpr x.apart) (fun p D e=>(NC p D).2.1 e.symm) (fun p D=>lookup_of_mem_nodup (Q _▸hnm) D) S1 MW p fun Ae σ2 W2 S2 g2 p=>?_;have g2:Go W σ s.heap W2 σ2 i:=⟨g2.e,u⟩
  have o2:(c.sub W s.heap (envOfC qual scope s.heap.objs.size f cdv) []).Ok w n:=⟨⟨⟨_,BG⟩,X',⟨_,_,T.keeps st⟩,rfl,K.kd,fun e he b C hf' hg'=>by
    rcases dP he with rfl|he
    ·cases hf'.symm.trans hf
     refine mZ (vJ S) fun oL V U es ep P=>?_;cases hg'.symm.trans V;exact zN es ep P
    ·refine dB (funFrames_in B.frames e he) fun L o2 V P=>?_
     cases hf'.symm.trans V;cases hg'.symm.trans (jm S P);exact o.G.N e he _ _ V P⟩,K.kd,rfl,rfl,by have:=o.hd;show c.dp+1+n<_;exact R5 this,by have:=o.hu;show c.un+3+10*n+300<_;exact VX this,fun e=>K.tp.elim (fun q=>nomatch q) fun q=>nomatch q.symm.trans e⟩
  refine H.ss (s:=sh s i tk) (k:=depth) o2 rfl ⟨rfl,fun U=>trivial⟩ K.tr S2 (p.bind.mono fun rs J BF zz=>?_);cases rs with
  |f fl=>
   have fin:∀d,(∀O I tk v,c.aC w O J ls I→Go W σ s.heap O J I→aP O.ρ I d v→R (.ok (.ret v)) (sh s I tk))→∀(O:Wd) (I:Heap) (tk:Nat) (v:Value),(c.sub W s.heap (envOfC qual scope s.heap.objs.size f cdv) []).aC w O J BF I→Go W2 σ2 i O J I→aP O.ρ I d v→R (.ok (.ret v)) (sh s I tk):=fun d kk O I tk v Z G' r=>by refine aZ (yQ S Z (g2.e.trans G'.e)) fun Sb tb=>kk O I tk v Sb ⟨g2.e.trans G'.e,tb⟩ r
   cases fl with
   |next=>exact fun O I tk f' Z G' e=>(show f'= .next from e)▸fin .none zz O I tk .none Z G' .none
   |ret d=>intro O I tk f' Z G' e;refine az e fun v iY r=>?_;subst iY;exact fin d zz O I tk v Z G' r
  |x=>exact fun O I tk v Z G' M=>EF o S rfl K.kd Z M (g2.e.trans G'.e) fun P v T'=>zz O P tk v (g2.e.trans G'.e) T'
  |z d=>intro O I tk v Z e' r;refine jH Z fun B' U' t' st' up'=>zz O I tk v (fun ho=>(EG o S ⟨B',U',t',st',up'⟩ (g2.e.trans e') ho).1) ⟨g2.e.trans e',fun x o hc e=>st' _ _ (t' x o hc (u x o hc e))⟩ r
  |_=>exact zz.elim
end
end
section
noncomputable abbrev pP:List Value:=[.ref 31,.type "Exception",.type "BaseException",.type "object"]
abbrev wU (h:Heap):Prop:=h.get? 44=some (excClassObj (S "BadKind") (S "BadKind") 44 43 [.ref 31] pP true [] [] false none none (some (.ref 35)) none (some (.str (S "BadKind") 224)) (some (.str (S "BadKind") 232)) (some (.bool true)) "Exception.__new__")
section
variable {w:World} {A:Around} {E:zQ} {h:Heap} {g:Array GenState} {d:Drawn} {t:Nat} {os:OsState} {rest:zV} {M:Model}
theorem mS (X:(zk w).In h):wU h:=X 44 _ cg
theorem pQ {Q:Unit→Shared→Prop} (C:wU h) (H:Q () ⟨h,g,d,t,os⟩):wpAny M A (checkBuiltinCall "Exception.__new__" ⟨.ref 44::rest,[]⟩) Q E ⟨h,g,d,t,os⟩:=by
 have F:=PySem.F.excBase_Exception;have I:(Value.ref 44::pP).contains (.type "Exception")=true:=by decide+kernel
 have O:=F.noStar;unfold checkBuiltinCall;rw [F.newKind,F.newSplit];try rw [F.newRow]
 repeat (first|refine wpAny_loadPart_at C ?_|(refine wpAny_isSubtype_exc C ?_;rw [I])|refine wpAny_staticBase_exc C ?_|refine wpAny_madeBy_exc C ?_|simp only [bne_self_eq_false,Bool.false_eq_true,if_false]|wp_step)
 exact H
theorem EI {R:Result→Shared→Prop} (C:wU h) (H:R (.ok (.ret (.ref (h.objs.size+1)))) ⟨(h.push {cls:= .type "tuple",data:= .seq rest.toArray}).push {cls:= .ref 44,data:= .fields #[.ref h.objs.size,.none,.none,.none,.bool false,.none]},g,d,t,os⟩) (B:rest.length≤sizeLine):
  codeAny (M0 w) A (.builtin "Exception.__new__" ⟨.ref 44::rest,[]⟩) R ⟨h,g,d,t,os⟩:=by
 have F:=PySem.F.excBase_Exception;have P:=F.ends;have V:(Value.ref 44::pP).contains (.type "Exception")=true:=by decide+kernel
 have Y:(Value.ref 44::pP).contains (.type "AttributeError")=false:=by decide+kernel
 have T:(Value.ref 44::pP).contains (.type "NameError")=false:=by decide+kernel
 refine codeAny_builtinAt F.entry ?_;unfold Builtin.«BaseException.__new__»;refine PySem.wpAt_bind ?_;show PySem.wpAt _ _ _ (stack>>=_) _ _ _;refine PySem.wpAt_bind (PySem.wpAt_stack fun p below=>PySem.wpAt_of_wpAny ?_)
 wp_walk
 refine PySem.wpAt_of_wpAny ?_;rw [F.owner];repeat (first|with_reducible refine wpAny_madeHere_exc F.canon C ?_|with_reducible refine wpAny_loadPart_at C ?_|(with_reducible refine wpAny_isSubtype_exc C ?_;first|rw [V]|rw [Y]|rw [T])|wp_step)
 show R _ _;rw [Heap.size_push];exact H
theorem bk_type_call {Q:PySem.Fin→Shared→Prop} (X:(zk w).In h) (B:rest.length≤sizeLine)
  (H:∀K e,Heap.MadeExcOf h K e (.ref 44) rest→wpAny (M0 w) A (call (.ref 28) (.ref e::rest)) (fun r L=>r= .none∧Q (.done (.ret (.ref e))) L) E ⟨K,g,d,t,os⟩):
  wpAny (M0 w) A (Builtin.«type.__call__» ⟨.ref 44::rest,[]⟩) Q E ⟨h,g,d,t,os⟩:=by
 have F:=PySem.F.excBase_Exception;have C:=mS X;repeat (first|with_reducible refine wpAny_loadPart_at C ?_|with_reducible refine wpAny_madeBy_exc C ?_|wp_step)
 refine codeAny_call_builtin_code (Code.quiet_builtin _ F.quiet) (pQ C ?_);refine EI C ?_ B;show wpAny _ _ _ _ _ _;have N:∀b o,h.get? b=some o→((h.push {cls:= .type "tuple",data:= .seq rest.toArray}).push {cls:= .ref 44,data:= .fields #[.ref h.objs.size,.none,.none,.none,.bool false,.none]}).get? b=some o:=fun b o e=>Heap.get?_push_of_some _ (Heap.get?_push_of_some _ e);have J:=N _ _ C;have G:=X.keeps N;have D:((h.push {cls:= .type "tuple",data:= .seq rest.toArray}).push {cls:= .ref 44,data:= .fields #[.ref h.objs.size,.none,.none,.none,.bool false,.none]}).get? (h.objs.size+1)=some {cls:= .ref 44,data:= .fields #[.ref h.objs.size,.none,.none,.none,.bool false,.none]}:=by heap_get
 have U:(Value.ref 44::pP).contains (.ref 44)=true:=by decide+kernel
 unfold isInstance;repeat (first|with_reducible refine wpAny_loadPart_at D ?_|(with_reducible refine wpAny_isSubtype_exc J ?_;rw [U])|wp_step)
 show wpAny _ _ (typeLookup (.ref 44) _) _ _ _;refine (looks_findIn G (show findIn (zk w) (.ref 44) _=some (some (.ref 28)) by kernel_rfl)).here<|wpAny_holding (bP ?_)
 refine (bind_fn G _ (show typeIn (zk w) (.ref 28)=some (.type "function") by kernel_rfl)).here<|bP (wpAny_mono (H _ (h.objs.size+1) ⟨N,Heap.get?_none_of_le (Nat.le_succ _),h.objs.size,D,Heap.get?_none_of_le (jd _),?_⟩) (fun r L hr=>?_) fun u u x=>x)
 ·exact Heap.get?_push_of_some _ (Heap.get?_push_at rfl rfl)
 ·refine aZ hr fun Z a=>?_;subst Z
  wp_walk
  exact a
theorem BL {Q:zQ} (X:(zk w).In h) (B:rest.length≤sizeLine)
  (H:∀K e,Heap.MadeExcOf h K e (.ref 44) rest→wpAny (M0 w) (A.under (.builtin "type.__call__" ⟨.ref 44::rest,[]⟩)) (call (.ref 28) (.ref e::rest)) (fun r L=>r= .none∧Q (.ref e) L) E ⟨K,g,d,t,os⟩):
  wpAny (M0 w) A (call (.ref 44) rest) Q E ⟨h,g,d,t,os⟩:=by
 have f1:=tc_lookup;have f2:=tc_bind (.ref 44);have C:=mS X;have hT:(⟨h,g,d,t,os⟩:Shared).TypeIs (.ref 44) "type" :=⟨_,C,rfl⟩
 refine wpAny_call (codeAny_of_tree ?_);show wpAny _ _ (callAny (.ref 44) _) _ _ _;repeat (any_goals (first|assumption|with_reducible refine wpAny_loadPart_at C ?_|wp_step))
 refine ⟨rfl,?_⟩;refine codeAny_call_builtin_at (Code.quiet_builtin _ (by decide+kernel)) entry_typeCall (wpAny_check_type_call_sub C (bk_type_call X B fun K e hm=>?_));exact H K e hm
end
end
section
open Builtin Builtin.ObjectAttr
section
variable {w:World} {A:Around} {E:zQ} {h:Heap} {g:Array GenState} {d:Drawn} {t:Nat} {os:OsState} {x:Addr} {O:Str→Option Value} {name:Str} {v:Value}
theorem rD {M:Model} {o:Obj} {R:Value} {Q:Unit→Shared→Prop} (m:wU h) (G:h.get? x=some o) (P:o.cls= .ref 44) (j:Q () ⟨h,g,d,t,os⟩):
  wpAny M A (checkBuiltinCall "object.__setattr__" ⟨[.ref x,R,v],[]⟩) Q E ⟨h,g,d,t,os⟩:=by
 have k:=PySem.F.store_Exception;have MQ:(Value.ref 44::pP).contains (.type "object")=true:=by decide+kernel
 unfold checkBuiltinCall;rw [k.kind,k.split];try dsimp only
 refine bP ?_;unfold isInstance;repeat (first|(with_reducible refine wpAny_loadPart_at G ?_;rw [P])|(with_reducible refine wpAny_isSubtype_exc m ?_;rw [MQ])|wp_step)
 exact j
abbrev yx (h:Heap) (x:Addr) (O:Str→Option Value) (name:Str) (v:Value) (D:Heap):Prop:=D.Inst x 44 (fun y=>if y=name then some v else O y)∧
 (∀b o,b≠x→(∀C dx,h.get? x=some C→C.dict=some dx→b≠dx)→h.get? b=some o→D.get? b=some o)∧
 ∀C,h.get? x=some C→∃J,D.get? x=some J∧J.data=C.data∧∀dx,J.dict=some dx→C.dict=some dx∨h.get? dx=none
theorem yT {tk:Tok} {Q:PySem.Fin→Shared→Prop} {ns:List Str} (X:(zk w).In h) (hf:findIn (zk w) (.ref 44) name=some none) (I:h.Inst x 44 O)
  (j:∀D H,yx h x O name v D→Q (.done (.ret .none)) ⟨D,g,d,H,os⟩) (hw:Within O ns) (hsz:ns.length≤sizeLine):
  wpAny (M0 w) A (Builtin.«object.__setattr__» ⟨[.ref x,.str name tk,v],[]⟩) Q E ⟨h,g,d,t,os⟩:=by
 refine jH I fun o G P Y hd=>?_;have m:=mS X;have T:=PySem.F.store_Exception.passes (.ref x);have N:refuseLoop (.ref x) "__setattr__" (.ref 44::pP)=pure ():=by rw [refuseLoop_ref,refuseLoop_ref];exact T
 unfold Builtin.«object.__setattr__»;repeat (first|rw [refuse_eq]|(rw [N])|(with_reducible refine wpAny_loadPart_at G ?_;rw [P])|with_reducible refine wpAny_mroOf_exc m ?_|(with_reducible refine (looks_findIn X hf).here ?_)|wp_step)
 rcases hd with ⟨z,r⟩|⟨dx,Z,V,p⟩
 ·rw [z,aS (by simp [typeHasDict])]
  split
  ·rename_i f
   cases f
  split
  ·rename_i c f
   exact absurd f (Y c)
  ·have K:(h.push {cls:= .type "dict",data:= .dict #[]}).get? x=some o:=Heap.get?_push_of_some _ G
   have S:x≠h.objs.size:=lM (Heap.lt_size G);refine bP (wpAny_alloc' ?_);refine bP (wpAny_update' K ?_);refine dY ?_;have s:((h.push {cls:= .type "dict",data:= .dict #[]}).update x fun o=>{cls:=o.cls,dict:=some h.objs.size,data:=o.data,slots:=o.slots}).get? h.objs.size=some {cls:= .type "dict",data:= .dict #[]}:=
    (Heap.get?_update_ne _ _ _ _ S.symm).trans (Heap.get?_push_at rfl rfl)
   have q:((h.push {cls:= .type "dict",data:= .dict #[]}).update x fun o=>{cls:=o.cls,dict:=some h.objs.size,data:=o.data,slots:=o.slots}).Ns h.objs.size (fun _=>none):=
    ⟨_,#[],_,s,rfl,fun e he=>absurd he (by simp),fun _=>rfl⟩
   show wpAny _ _ (storeInDict h.objs.size (.str name tk) name v) _ _ _;unfold storeInDict newKeyGuard;refine bP (dY (bP (wpAny_nsSet1 (Heap.Ns1.of_empty q) fun D L hs=>?_)));refine xo (L.count (Within.cons name v Within.nil)) fun oD esD Tw U a i=>bP (wpAny_lookBehind U (by rw [a];exact pastItsLine_dict (fQ i (by rw [List.length_cons,List.length_nil,sizeLine_eq];decide))) ?_)
   wp_walk
   have l:D.get? x=some {cls:=o.cls,dict:=some h.objs.size,data:=o.data,slots:=o.slots}:=by refine (hs.2 x S).trans (Heap.get?_update_self _ K ?_);have u:=(Heap.get?_some_iff.mp G).2;obtain ⟨oc,od,n,osl⟩:=o;cases n<;>first|rfl|exact u
   refine j D _ ⟨⟨_,l,P,Y,.inr ⟨h.objs.size,rfl,S.symm,?_⟩⟩,fun b ob IX _ hb=>?_,fun C h₀=>?_⟩
   ·refine Iu L fun o' es ep e1 e2 e3 eu e4=>?_
    exact Ni o' es ep e1 e2 e3 eu (fun y=>by rw [e4 y];by_cases hy:y=name<;>simp [hy,r])
   ·exact (hs.2 b (lM (Heap.lt_size hb))).trans ((Heap.get?_update_ne _ _ _ _ IX).trans (Heap.get?_push_of_some _ hb))
   ·obtain rfl:o=C:=bw (G.symm.trans h₀)
    exact n6 _ l rfl (fun dx e=> .inr (bw e▸Heap.get?_none_of_le (jd _)))
 ·rw [Z]
  refine dY ?_;show wpAny _ _ (storeInDict dx (.str name tk) name v) _ _ _;unfold storeInDict newKeyGuard;refine bP (dY (bP (wpAny_nsSet1 p fun D L hs=>?_)));refine xo (L.count (Within.cons name v hw)) fun oD esD Tw U a i=>bP (wpAny_lookBehind U (by rw [a];exact pastItsLine_dict (fQ i (by rw [List.length_cons];exact R_ hsz))) ?_)
  wp_walk
  refine j D _ ⟨⟨o,(hs.2 x V.symm).trans G,P,Y,.inr ⟨dx,Z,V,L⟩⟩,fun b ob _ hbd hb=>?_,fun C h₀=>?_⟩
  ·exact (hs.2 b (hbd o dx G Z)).trans hb
  ·obtain rfl:o=C:=bw (G.symm.trans h₀)
   exact n6 o ((hs.2 x V.symm).trans G) rfl (fun dx e=> .inl e)
theorem EJ {Q:Unit→Shared→Prop} {ns:List Str} (X:(zk w).In h) (hf:findIn (zk w) (.ref 44) name=some none) (I:h.Inst x 44 O)
  (j:∀D H,yx h x O name v D→Q () ⟨D,g,d,H,os⟩) (hw:Within O ns) (hsz:ns.length≤sizeLine):
  wpAny (M0 w) A (setAttr (.ref x) name v) Q E ⟨h,g,d,t,os⟩:=by
 refine iZ (id I) fun o G P Z=>?_;have m:=mS X;have k:=PySem.F.store_Exception;have f3:=k.slot.bind (.ref x);have hs:findIn (zk w) (.ref 44) (Str.ofString "__setattr__")=some (some (.builtin "object.__setattr__")):=by kernel_rfl
 unfold setAttr callSpecial? specialOf;repeat (any_goals (first|assumption|(with_reducible refine wpAny_loadPart_at G ?_;rw [P])|(refine (looks_findIn X hs).here ?_)|wp_step))
 refine codeAny_call_builtin k.slot.plain k.entry (rD m G P (yT X hf I (fun D H B=>?_) hw hsz));repeat (any_goals (first|assumption|wp_step))
 exact j D H B
end
end
section
noncomputable def yL (x:Str) (t:Stmt):Bool:=bM (gf t) fun t=>bM (one t.1) fun u=>bM (dW u) fun u=>bM (cY u.1) fun o=>bM (cY t.2.1) fun v=>decide (o.1=Str.ofString "self")&&(decide (u.2.1=x)&&decide (v.1=x))
noncomputable def two {α:Type} (l:List α):Option (α×α):=match l with
 |a::l=>match l with
  |b::l=>match l with
   |[]=>some (a,b)
   |_::_=>none
  |[]=>none
 |[]=>none
theorem Hr {α:Type} {l:List α} {p:α×α} (h:two l=some p):l=[p.1,p.2]:=by
 cases l with
 |nil=>exact aW h
 |cons a l=>cases l with
  |nil=>exact aW h
  |cons b l=>cases l with
   |nil=>cases bw h;rfl
   |cons=>exact aW h
noncomputable def Nl (K:Frag) (fd:FuncData) (body:List Stmt):Bool:=
 (Nat.beq fd.globals mainGlobals&&(Nat.beq fd.builtins builtinsNs&&(e7 fd.closure&&(codeIn K fd.code fd.qualname&&(jR fd.defaults&&(jR fd.kwdefaults&&(e7 fd.params.posonlyargs&&(e7 fd.params.kwonlyargs&&(fd.params.vararg.isNone&&fd.params.kwarg.isNone)))))))))&&
 (decide (fd.params.args.map (·.arg)=[Str.ofString "self",Str.ofString "code",Str.ofString "at"])&&((decide (fd.scope.names.lookup (Str.ofString "self")=some .local)&&(decide (fd.scope.names.lookup (Str.ofString "code")=some .local)&&decide (fd.scope.names.lookup (Str.ofString "at")=some .local)))&&
 (((fd.scope.names.all fun x=>!decide (x.2= .cell))&&(!fd.scope.isCoroutine&&(!fd.scope.isGenerator&&decide (fd.scope.kind= .function))))&&bM (two body) fun p=>yL (Str.ofString "code") p.1&&yL (Str.ofString "at") p.2)))
theorem Cr (w:World):(bM ((zk w).lookup 28) fun o=>bM (Bq o.data) fun fd=>bM (uQ fd.body) fun body=>Nl (zk w) fd body)=true:=by kernel_rfl
section
variable {w:World} {A:Around} {E:zQ} {s:Shared} {e L:Addr} {m F:Str→Option Value} {v:Value} {ev:Env}
abbrev LK (e:Addr) (h C:Heap):Prop:=∀b o,b≠e→h.get? b=some o→C.get? b=some o
theorem Fo {h C:Heap} (X:(zk w).In h) (H:Heap) (V:(zk w).In H) (he:H.get? e=none) (b:LK e h C):(zk w).In C:=fun a o q=>b a o (fun z=>by rw [z] at q;exact aW (he.symm.trans (V _ _ q))) (X a o q)
theorem F9 {h C:Heap} (n:h.Ns L m) (R:L≠e) (b:LK e h C):C.Ns L m:=by refine t_ n fun o es U T S=>Fj o es U (b L o R T) S
theorem uZ {x:Str} {t:Stmt} {r:List Stmt} {J:Flow→Shared→Prop} (ok:yL x t=true) (X:(zk w).In s.heap) (hf:findIn (zk w) (.ref 44) x=some none) (hk:ev.scope.kind= .function) (hs:ev.scope.names.lookup (Str.ofString "self")=some .local) (P:ev.scope.names.lookup x=some .local) (G:(x==("__debug__" :Str))=false)
  (n:s.heap.Ns ev.locals m) (N:m (Str.ofString "self")=some (.ref e)) (M:m x=some v) (I:s.heap.Inst e 44 F) {ns:List Str} (hw:Within F ns) (hsz:ns.length≤sizeLine)
  (h:∀C tk,yx s.heap e F x v C→wpAny (M0 w) A (execs r ev) J E (sh s C tk)):wpAny (M0 w) A (execs (t::r) ev) J E s:=
 au ok fun a Q t=>au t fun u hu t=>au t fun b hb t=>au t fun o ho t=>au t fun y O t=>af t fun t1 t=>af t fun t2 t3=>by have q:=dh Q;rw [cO hu,cN hb,aU ho,aU O,dR t1,dR t2,dR t3] at q;rw [q];refine wpAny_execs_cons (plainObj_wpAny_Assign_Attribute (wpAny_Name (wpAny_loadName_local hk P n M (wpAny_Name (wpAny_loadName_local hk hs n N ?_) (by decide+kernel))) G) rfl);exact EJ X hf I (fun C D B=>h C D B) hw hsz
end
end
section
section
variable {w:World} {A:Around} {E:zQ} {s:Shared} {e:Addr} {H I:Value} {h₀:Heap}
abbrev DH (h₀:Heap) (e:Addr) (G:Heap):Prop:=(∀b o,h₀.get? b=some o→G.get? b=some o)∧h₀.get? e=none∧∃ob t,G.get? e=some ob∧ob.cls= .ref 44∧ob.data= .fields #[.ref t,.none,.none,.none,.bool false,.none]
theorem zS {F4 qn:Str} {p:Arguments} {body:List Stmt} {sc:Scope} {dc pm cd ct n:Value} {an:Option Addr} (h:p.args.map (·.arg)=[Str.ofString "self",Str.ofString "code",Str.ofString "at"]):BindsTo s (fnX F4 qn (J2 p) body sc [] .none .none dc pm an cd ct) ⟨[n,H,I],[]⟩ [(Str.ofString "self",n),(Str.ofString "code",H),(Str.ofString "at",I)]:=by have q:=rC (F4:=F4) (qn:=qn) (p:=p) (body:=body) (sc:=sc) (dc:=dc) (pm:=pm) (cd:=cd) (ct:=ct) (an:=an) (vs:=[n,H,I]) (by rw [h];decide+kernel) (by have:=congrArg List.length h;rw [List.length_map] at this;exact this.symm);rw [h] at q;exact BindsTo.of_eq q
theorem Ct {Q:zQ} (X0:(zk w).In h₀) (M:Heap.MadeExcOf h₀ s.heap e (.ref 44) [H,I]) (hl:h₀.NoLimit) (hroom:A.depth<recursionLimit)
  (hQ:∀G tk,DH h₀ e G→Q (.ref e) (sh s G tk)):wpAny (M0 w) A (call (.ref 28) [.ref e,H,I]) (fun r s'=>r= .none∧Q (.ref e) s') E s:=by
 have X:(zk w).In s.heap:=X0.keeps M.keeps;refine au (Cr w) fun fo ho h=>au h fun fd K h=>au h fun body hb h=>af h fun D h=>af h fun h2 h=>af h fun h3 O=>af O fun O h5=>au h5 fun bs HC h5=>af D fun a1 D=>af D fun a2 D=>af D fun a3 D=>af D fun a4 D=>af D fun a5 D=>af D fun a6 D=>af D fun a7 D=>af D fun a8 D=>af D fun a9 S_=>af h3 fun i h3=>af h3 fun k j=>af O fun c1 O=>af O fun c2 O=>af O fun c3 c4=>af h5 fun d1 d2=>?_;have K:=(tu K).trans (congrArg Data.func (DR (ie a1) (ie a2) (bg a3) (vW a5) (vW a6) (pF hb) (bg a7) (bg a8) (By a9) (By S_)));have hps:=dR h2;have i:=dR i;have k:=dR k;have j:=dR j;have J:=dR c4;refine iZ M.there fun t0 V Z Z=>wpAny_call (codeAny_call_def hroom (X 28 fo ho) K (hl.keeps M.keeps) (codeRec_of X a4) rfl (zS hps) (fun x hx=>of_decide_eq_false (bu (gh c1 x hx))) (fun y hy=>?_) (fun B U F=>?_) (bu c2) (bu c3) J)
 ·rcases hy with _|⟨_,_|⟨_,_|⟨_,hy⟩⟩⟩
  ·exact i
  ·exact k
  ·exact j
  ·exact nomatch hy
 ·have L:=F _ _ V
  have I1:B.Inst e 44 (fun Z=>none):=⟨_,L,rfl,(fun c q=>nomatch q),.inl ⟨rfl,fun Z=>rfl⟩⟩
  have X1:(zk w).In B:=X.keeps F;have hLe:s.heap.objs.size≠e:=Nat.ne_of_gt (Heap.lt_size V);have k0:∀b o,h₀.get? b=some o→B.get? b=some o:=fun b o q=>F b o (M.keeps b o q);rw [show body=[bs.1,bs.2] from Hr HC];refine uZ (s:=sh s B _) d1 X1 cg J i k (by decide+kernel) U (by rfl) (by rfl) I1 Within.nil (Nat.zero_le _) fun P yu B2=>?_;have k1:LK e B P:=fun b o hb q=>B2.2.1 b o hb (fun o0 dx m l=>by cases L.symm.trans m;exact nomatch l) q
  have X2:(zk w).In P:=Fo X1 h₀ X0 M.new k1;refine iZ (B2.2.2 _ L) fun o2 T hd2 a=>uZ (s:=sh s P yu) d2 X2 cg J i j (by decide+kernel) (F9 U hLe k1) (by rfl) (by rfl) B2.1 (Within.cons (Str.ofString "code") H Within.nil) (by decide+kernel) fun h3' u B3=>iZ (B3.2.2 _ T) fun o3 S UL Z=>iZ B3.1 fun Xj R hc3 Z=>?_;cases S.symm.trans R;refine wpAny_execs_nil (show Value.none=Value.none∧_ from ⟨rfl,hQ h3' u ⟨fun b o q=>?_,M.new,o3,t0,S,hc3,UL.trans hd2⟩⟩);have f:b≠e:=fun z=>by rw [z,M.new] at q;exact aW q
  refine B3.2.1 b o f (fun o0 dx m l z3=>?_) (k1 b o f (k0 b o q));cases T.symm.trans m;rcases a dx l with z|z
  ·exact nomatch z
  ·rw [←z3,k0 b o q] at z;exact aW z.symm
theorem BN {Q:zQ} (X:(zk w).In s.heap) (hl:s.heap.NoLimit) (hroom:(A.under (.builtin "type.__call__" ⟨.ref 44::[H,I],[]⟩)).depth<recursionLimit)
  (hQ:∀G tk e,DH s.heap e G→Q (.ref e) (sh s G tk)):wpAny (M0 w) A (call (.ref 44) [H,I]) Q E s:=
 BL X (show 2≤sizeLine by decide+kernel) fun G e M=>Ct (s:=⟨G,s.gens,s.drawn,s.toks,s.os⟩) X M hl hroom fun h2 tk N=>hQ h2 tk e N
theorem pR {x:Sem Value} {ev:Env} {Q:Flow→Shared→Prop} (hh:A.handled=none) (h:wpAny (M0 w) A x (fun v C=>∃e ob t,v= .ref e∧wU C.heap∧C.heap.get? e=some ob∧ob.cls= .ref 44∧ob.data= .fields #[.ref t,.none,.none,.none,.bool false,.none]∧E (.ref e) C) E s):
  wpAny (M0 w) A (raiseStmt ev (some x) none) Q E s:=by
 have MQ:(Value.ref 44::pP).contains (.type "BaseException")=true:=by decide+kernel
 unfold raiseStmt;refine bP (wpAny_mono h (fun v C B=>?_) fun u u x=>x);refine p9 B fun e ob t Ir hC he Z Y hE=>?_;subst Ir;obtain ⟨hp,g,d,tk,os⟩:=C;obtain ⟨oc,Xn,Xm,osl⟩:=ob;dsimp only at Z Y;subst Z Y;repeat (first|with_reducible refine wpAny_loadPart_at he ?_|with_reducible refine wpAny_loadPart_at hC ?_|(with_reducible refine wpAny_isSubtype_exc hC ?_;rw [MQ])|wp_step)
 exact wpAny_raiseNew_none hh hE
end
end
section
variable {A:Around} {d:DV} {I:List MS}
theorem QZ {ρ:gJ} {h:Heap} {ds:zL} {vs:zV} (r:aO ρ h ds vs) (e:Nat.beq ds.length 2=true):∃v1 v2,vs=[v1,v2]:=by
 have l:=r.length.trans (ie e);clear r;cases vs with
 |nil=>exact nomatch l
 |cons a vs=>cases vs with
  |nil=>exact nomatch l
  |cons b vs=>cases vs with
   |nil=>exact zN a b rfl
   |cons=>exact nomatch l
section
variable {w:World} {c:Cx} {W:Wd} {σ:ah} {ls:Lc} {s:Shared} {Q:Flow→Shared→Prop} {E:zQ} {n k j:Nat} {q:zT} {z:Bool} {av:Nat} {l:List MS} {t:Stmt} {r:List Stmt} {Φ:zP} {h:Heap}
theorem Bb {as:List ME} (H:ic w n q) (o:c.Ok w (n+1)) (S:c.aC w W σ ls s.heap) (t1:rm (zk w) c.ev.scope (cD (zk w) k c.ev.scope) (eV (zk w) c.ev.scope k) (.cu as) t=true) (p:ao (fM w c W σ s Q E) (eE PG z av q (.cu as) l σ ls)):zw w c (execs (t::r) c.ev) Q E s:=
 au t1 fun a ha t=>af t fun t0 t=>au t fun e he t=>au t fun u hu t=>af t fun tk t=>au t fun f hf t=>af t fun tg ta=>by
  have K:=yj ha;rw [he,cR hu,aU hf,bg tk,By t0] at K;rw [K];refine wpAny_execs_cons ?_;rw [arm_exec_Raise];refine bP (wpAny_standAt ?_);refine pR (x:=do let v←eval (.Call (.Name f.1 f.2) u.2.1 [] u.2.2.2) c.ev;standAt a.2.2;pure v) rfl (bP ?_);refine Call_Name rfl (iK o.down tg S fun v r=>?_);refine r.jK (dI H o.down S ta cg p fun ds σ1 W1 h1 bO vs S1 g1 r1 p=>m9 p fun hl p=>?_);refine ji (QZ r1 hl) fun v1 v2 R=>?_;subst R;refine az S1.fr fun m F Z=>ji o.G.T fun mg mb T=>?_;have X:=S1.D3 (s:=sh s h1 bO) o;refine BN (s:=sh s h1 bO) X (T.nolimit.keeps F.keep) (by rw [pA H o.down S];have:=o.hd;show c.dp+1<_;exact VY this) fun P tk e N=>bP (wpAny_standAt (dY ?_));refine xq N fun k1 k2 ob t k3 k4 k5=>Nj e ob t rfl (mS (X.keeps k1)) k3 k4 k5 (p W1 P tk _ ((S1.grow k1).less fun Z Z e=>nomatch e) ⟨g1.e,fun x o hc e=>k1 _ _ (g1.t x o hc e)⟩ ⟨e,t,ob,rfl,k3,k4,k5,?_,fun p hp q=>?_⟩)
  ·cases q:c.g.get? e with
   |none=>rfl
   |some o=>exact aW (k2.symm.trans (F.keep _ _ q))
  ·rw [←q,(S1.nw p hp).1] at k2;exact aW k2.symm
theorem xe {ev:Env} {e:ME} {sc:Scope} {x:PySem.Expr} {Q E:zQ} (t:cD (zk w) k sc e x=true) (he:CS (.ret (some e)::l)=some d) (h:∀i tk C,d= .int i→Q (.int i tk) {s with toks:=C}):wpAny (M0 w) A (eval x ev) Q E s:=by
 have con:∀{k:Nat} {d:DV} {i:Int} {x:PySem.Expr} {Q:zQ},d= .int i→cD (zk w) k sc (.c d) x=true→(∀tk C,Q (.int i tk) {s with toks:=C})→wpAny (M0 w) A (eval x ev) Q E s:=fun {k d i x Q} hd t h=>by
  subst hd;cases k with
  |zero=>exact nof t
  |succ k=>
   refine au t fun u hu t=>?_;rw [gY hu];obtain ⟨cc,i,pos⟩:=u;cases cc with
   |int b'=>exact dR (bJ.symm.trans t)▸wpAny_Constant_int (h _ _)
   |_=>exact nof t
 cases e with
 |c d0=>cases d0 with
  |int i=>exact con rfl t fun tk C=>h i tk C (bw he).symm
  |_=>exact nomatch he
 |neg e=>cases e with
  |c d0=>cases d0 with
   |int i=>cases k with
    |zero=>exact nof t
    |succ k=>refine au t fun u hu t=>af t fun t1 t=>?_;rw [eG hu,dR t1];exact wpAny_UnaryOp (con rfl t fun tk C=>PyProof.Rows.neg_int (h (-i) _ _ (bw he).symm))
   |_=>exact nomatch he
  |_=>exact nomatch he
 |_=>exact nomatch he
theorem BO {u:Str×Pos} {Q E:zQ} (o:c.Ok w n) (D:c.g.UpToSlots s.heap) (tg:Eo (zk w) c.ev.scope (.fn H9) u.1=true) (k:Q (.ref 44) s):wpAny (M0 w) A (eval (.Name u.1 u.2) c.ev) Q E s:=
 af tg fun t5 Y=>gy t5 fun t7 t8=>by
  refine ji o.G.T fun mg mb T=>?_;have X:=o.G.X;cases en:nsIn (zk w) mainGlobals u.1 with
  |none=>rw [en] at Y;exact nof Y
  |some ov=>
   rw [en] at Y;cases ov with
   |none=>exact nof Y
   |some vv=>
    have Nc:vv= .ref 44:=by
     cases vv with
     |ref b=>exact congrArg Value.ref (ie Y).symm
     |_=>exact nof Y
    subst Nc;exact Name_function_global o.hk t7 (loadGlobal_global (env:=c.ev) (by rw [o.hg];exact D.ns T.g) (mg_of X T.g en) k) t8
theorem zJ {ev:Env} {sc:Scope} {hb:List Stmt} {E:zQ} (t:cF (eV (zk w) sc k) I hb=true) (hd:CS I=some d) (h:∀i tk C,d= .int i→Q (.ret (.int i tk)) {s with toks:=C}):wpAny (M0 w) A (execs hb ev) Q E s:=by
 cases I with
 |nil=>exact aW hd
 |cons m I=>cases m with
  |ret e=>cases e with
   |none=>exact nomatch hd
   |some e=>cases hb with
    |nil=>exact nof t
    |cons b0 hb=>
     refine af t fun t Z=>?_;cases k with
     |zero=>exact nof t
     |succ k=>refine au t fun ur Vc t=>au t fun vr Vd t=>?_;rw [nO Vc,Vd];exact wpAny_execs_cons (wpAny_Return_some (xe (l:=I) t hd fun i bO O hi=>h i bO O hi))
  |_=>exact nomatch hd
theorem xB {qs:MS→Stmt→Bool} {hb:List Stmt} (t:cF qs I hb=true) (hd:CS I=some d):∃b0 b1,hb=b0::b1:=by
 cases hb with
 |cons b0 b1=>exact zN _ _ rfl
 |nil=>cases I with
  |nil=>exact aW hd
  |cons m I=>cases m with
   |ret e=>exact nof t
   |_=>exact nomatch hd
theorem w9 {B Z:Heap} (o:c.Ok w n) (kp:∀b o,c.g.get? b=some o→(∀e∈c.outer,e.frame≠some b)→B.get? b=some o) (st:B.StaysIn Z):wU Z:=by obtain ⟨⟨A₀,Bl⟩,X,_⟩:=o.G;refine st _ _ (kp _ _ (mS X) fun env M q=>?_);refine dB (funFrames_in Bl.frames env M) fun L o' K q2=>?_;cases q.symm.trans K;refine ji (o.G.N env M _ _ K q2) fun es ep q3=>?_;cases q2.symm.trans (mS X);exact nomatch q3
theorem GY {b:List MS} (H:ic w n q) (o:c.Ok w n) (hL:c.ev.locals=c.L) (J:c.ev=c.fe∧∀m,c.ml m) (S:c.aC w W σ ls s.heap) (t1:rm (zk w) c.ev.scope (cD (zk w) k c.ev.scope) (eV (zk w) c.ev.scope k) (.yg b I) t=true) (t2:cF (eV (zk w) c.ev.scope (k+1)) l r=true) (p:ao (fM w c W σ s Q E) (eE PG z av q (.yg b I) l σ ls)):zw w c (execs (t::r) c.ev) Q E s:=
 au t1 fun a ha t=>af t fun t3 t=>af t fun t4 t=>au t fun x hx t=>af t fun tb th=>by
  have K:=DB ha;obtain ⟨ty,Xi,hb,hp⟩:=x;refine af th fun tn th=>au th fun e he th=>au th fun u hu th=>af th fun tg SN=>?_;rw [cO hx,he,aU hu,By tn,bg t3,bg t4] at K;rw [K];refine wpAny_execs_cons (wpAny_Try_except (H.ss o hL J tb S (p.bind.mono fun rs σ' BF V=>?_)));cases rs with
  |f fl=>cases fl with
   |next=>exact fun W' P tk f S' G e=>(show f= .next from e)▸wpAny_execs_nil (H.ss (s:=sh s P tk) o hL J t2 S' (fM.then V G))
   |ret d=>intro W' P tk f S' G e;refine az e fun v iY rv=>?_;subst iY;exact V W' P tk _ S' G ⟨v,rfl,rv⟩
  |y=>
   refine eT V fun d hd V W' P tk v ex T=>Iu T fun e B a0 Ir Fl U t0 up=>?_;subst Ir;have hf:c.ev.frame=some c.L:=J.1▸o.G.hf;refine wpAny_looks_onW (base:=B) (s:=sh s P tk) (A:=c.A) (env:=c.ev) (outer:=c.outer) (by rw [J.1]) hf (J.1▸Fl) fun h2 hH W0=>wpAny_landsW (s:=sh s h2 tk) hH fun Z hF D=>?_;have st3:=hF.1;have D:c.g.UpToSlots Z:=(up.trans W0).trans D;refine wpAny_handleBy_cons (codeAny_handlers_test (BO (s:=sh s Z tk) o D tg ?_)) (fun q=>nomatch q);refine az hF.there fun oe U6 hoc=>ji (xB (af SN fun a Y=>a) hd) fun b0 b1 R=>?_;subst R;refine wpAny_excMatches_sub_self (w9 o U.kp st3) U6 hoc (by decide+kernel)<|codeAny_handlers_suite (wpAny_setFlight_noneW (s:=sh s Z tk) hF.1 hF.2.2.1 hF.2.2.2.at fun h4 k1 k2 k3 k4=>?_)
   refine zJ (s:=sh s h4 tk) (af SN fun a Y=>a) hd fun i bO O hi=>?_;subst hi;exact V W' h4 O _ ⟨B,U,t0,k1,D.trans fun b ob q hq=>⟨ob.slots,k4 b ob q hq⟩⟩ ex (.int _ _)
  |_=>exact V.elim
end
end
section
section
variable {w:World} {c:Cx} {W:Wd} {σ:ah} {ls:Lc} {s:Shared} {n k:Nat} {q:zT} {z:Bool} {av:Nat} {rx:Bool→Nat→zT}
theorem Dr (H:ic w n q) (o:c.Ok w (n+1)) (D:c.ev.locals=c.L) (A:c.ev=c.fe∧∀m,c.ml m) (S:c.aC w W σ ls s.heap) {Q:Flow→Shared→Prop} {E:zQ} {m:List MS} {x:List Stmt} (t:cF (eV (zk w) c.ev.scope k) m x=true) (p:ao (fM w c W σ s Q E) (step PG z av q rx (.ss m) σ ls)):zw w c (execs x c.ev) Q E s:=by
 cases m with
 |nil=>
  cases x with
  |nil=>exact wpAny_execs_nil (p W s.heap s.toks .next S .refl rfl)
  |cons=>exact nof t
 |cons m l=>
  have go:∀{R:Prop},m≠.bad→(∀t1 r k',x=t1::r→k=k'+1→rm (zk w) c.ev.scope (cD (zk w) k' c.ev.scope) (eV (zk w) c.ev.scope k') m t1=true→cF (eV (zk w) c.ev.scope (k'+1)) l r=true→R)→R:=fun {R} hb f=>by
   cases x with
   |nil=>cases m<;>first|exact nof t|exact absurd rfl hb
   |cons t1 r=>
    have t':(eV (zk w) c.ev.scope k m t1&&cF (eV (zk w) c.ev.scope k) l r)=true:=by cases m<;>first|exact t|exact absurd rfl hb
    refine af t' fun a b=>?_;cases k with
    |zero=>exact nof a
    |succ k=>exact f t1 r k rfl rfl a b
  cases m with
  |b7 y e=>exact go (fun q=>nomatch q) fun t1 r k' C B a b=>by subst C B;exact GU (z:=z) (av:=av) H o.down D A S a b p
  |mJ y e=>exact go (fun q=>nomatch q) fun t1 r k' C B a b=>by subst C B;exact Dm (z:=z) (av:=av) H o.down D A S a b p
  |kc y e=>exact go (fun q=>nomatch q) fun t1 r k' C B a b=>by subst C B;exact Dn (z:=z) (av:=av) H o.down D A S a b p
  |a_ e i f=>exact go (fun q=>nomatch q) fun t1 r k' C B a b=>by subst C B;exact Dj (z:=z) (av:=av) H o.down D A S a b p
  |cS e i f=>exact go (fun q=>nomatch q) fun t1 r k' C B a b=>by subst C B;exact Dk (z:=z) (av:=av) H o.down D A S a b p
  |wY xs e=>exact go (fun q=>nomatch q) fun t1 r k' C B a b=>by subst C B;exact Dl (z:=z) (av:=av) H o.down D A S a b p
  |aug y op e=>exact go (fun q=>nomatch q) fun t1 r k' C B a b=>by subst C B;exact GV (z:=z) (av:=av) H o.down D A S a b p
  |w7 e i op f=>exact go (fun q=>nomatch q) fun t1 r k' C B a b=>by subst C B;exact Dp (z:=z) (av:=av) H o.down D A S a b p
  |ex e=>exact go (fun q=>nomatch q) fun t1 r k' C B a b=>by subst C B;exact KL (z:=z) (av:=av) H o.down D A S a b p
  |iff e f g=>exact go (fun q=>nomatch q) fun t1 r k' C B a b=>by subst C B;exact KN (z:=z) (av:=av) H o.down D A S a b p
  |cj y e f=>exact go (fun q=>nomatch q) fun t1 r k' C B a b=>by subst C B;exact GW (z:=z) (av:=av) H o.down D A S a b p
  |forL y e f=>exact go (fun q=>nomatch q) fun t1 r k' C B a b=>by subst C B;exact Dq (z:=z) (av:=av) H o.down D A S a b p
  |yv e f=>exact go (fun q=>nomatch q) fun t1 r k' C B a b=>by subst C B;exact GZ (z:=z) (av:=av) H o.down D A S a b p
  |ret e=>exact go (fun q=>nomatch q) fun t1 r k' C B a b=>by subst C B;exact GX (z:=z) (av:=av) (l:=l) H o.down D A S a p
  |yg e f=>exact go (fun q=>nomatch q) fun t1 r k' C B a b=>by subst C B;exact GY (z:=z) (av:=av) H o.down D A S a b p
  |cu as=>exact go (fun q=>nomatch q) fun t1 r k' C B a b=>by subst C B;exact Bb (z:=z) (av:=av) (l:=l) H o S a p
  |bad=>exact p.elim
theorem sQ (H:ic w n q) (O:∀z R,yG w n (rx z R)):ic w (n+1) (step PG z av q rx) where
 e:=fun o t S p=>G7 H o S O t p
 es:=fun o t S p=>GK H o.down S t p
 IB:=fun p=>p
 kv:=fun o t S p=>GO H o.down S t p
 kl:=fun o t S hd K N M p=>GN H o.down t S hd K N M p
 b:=fun o t S p=>G6 H o S t p
 call:=fun o S r p=>step_call H o S r p
 ss:=fun o D A t S p=>Dr H o D A S t p
 fr:=fun o D A t p=>GL H o.down D A t p
 wh:=fun o D A I t p=>GR H o.down D A I t p
 cp:=fun F t J p=>GJ H (fun c G=>⟨(F c G).1.down,(F c G).2⟩) t J p
theorem sV:ic w 0 (fun Z Z Z=> .no) where
 e:=fun Z Z Z p=>p.elim
 es:=fun Z Z Z p=>p.elim
 IB:=fun p=>p.elim
 kv:=fun Z Z Z p=>p.elim
 kl:=fun Z Z Z Z Z Z Z p=>p.elim
 b:=fun Z Z Z p=>p.elim
 call:=fun Z Z Z p=>p.elim
 ss:=fun Z Z Z Z Z p=>p.elim
 fr:=fun Z Z Z Z p=>p.elim
 wh:=fun Z Z Z Z Z p=>p.elim
 cp:=fun Z Z Z p=>p.elim
theorem uK:∀(n:Nat) (z:Bool) (av:Nat),ic w n (rn PG n z av)
 |0,_,_=>sV
 |n+1,z,av=>sQ (uK n z av) fun z R=>(uK n z R).c (jd _)
theorem DP {n:Nat} (h:500≤n):cf n=500:=bk h
theorem Ic {n:Nat}:cf n≤n:=by
 by_cases h:500≤n
 ·rw [DP h];exact h
 ·rw [show cf n=n from aS h];exact jd _
theorem qU:∀(n:Nat) (z:Bool) (av:Nat),ic w n (run PG n z av)
 |0,_,_=>sV
 |n+1,z,av=>sQ (qU n z av) fun z R=>match z with
  |true=>(uK (cf n) true R).c Ic
  |false=>(qU n false R).c (jd _)
end
end
section
variable {P:Nat→Prop} {A:zP}
theorem nx {k m:Nat} (h:m<k+1) (B:P 0) (hs:∀m,m<k→P (m+1)):P m:=by
 cases m with
 |zero=>exact B
 |succ m=>exact hs m (Nat.lt_of_succ_lt_succ h)
@[elab_as_elim] theorem o7 {r:Nat} (h:r<4) (B:P 0) (G:P 1) (D:P 2) (C:P 3):P r:=nx h B fun Z h=>nx (P:=fun m=>P (m+1)) h G fun Z h=>nx (P:=fun m=>P (m+2)) h D fun Z h=>nx (P:=fun m=>P (m+3)) h C fun Z h=>absurd h (Nat.not_lt_zero _)
@[elab_as_elim] theorem jV {r:Nat} (h:r<12) (B:P 0) (G:P 1) (D:P 2) (C:P 3) (M:P 4) (L:P 5) (K:P 6) (J:P 7) (I:P 8) (H:P 9) (F:P 10) (E:P 11):P r:=nx h B fun Z h=>nx (P:=fun m=>P (m+1)) h G fun Z h=>nx (P:=fun m=>P (m+2)) h D fun Z h=>nx (P:=fun m=>P (m+3)) h C fun Z h=>nx (P:=fun m=>P (m+4)) h M fun Z h=>nx (P:=fun m=>P (m+5)) h L fun Z h=>nx (P:=fun m=>P (m+6)) h K fun Z h=>nx (P:=fun m=>P (m+7)) h J fun Z h=>nx (P:=fun m=>P (m+8)) h I fun Z h=>nx (P:=fun m=>P (m+9)) h H fun Z h=>nx (P:=fun m=>P (m+10)) h F fun Z h=>nx (P:=fun m=>P (m+11)) h E fun Z h=>absurd h (Nat.not_lt_zero _)
inductive An where
 |s (n:Nat)
 |b (x:Bool)
 |d (x:DV)
 |c (m:List Bool) (x:Cell)
 |h (m:List Bool)
noncomputable def GD:Nat→RR→(RR→Prop)→Prop
 |0,r,P=>P r
 |n+1,r,P=>match r with
  | .br o t f=>match o with
   |some b=>match b with
    |true=>GD n t P
    |false=>GD n f P
   |none=>False
  | .op o k=>match o with
   |some d=>GD n (k d) P
   |none=>False
  | .oc o i k=>match o with
   |some t=>match t.get i with
    |some d=>GD n (k d) P
    |none=>False
   |none=>False
  |_=>False
noncomputable def dig:List Bool→TC→Nat→(TC→Prop)→Prop
 |[],t,_,P=>P t
 |b::m,t,k,P=>match t with
  | .aq i _ t=>match b with
   |true=>match Nat.beq k i with
    |true=>False
    |false=>dig m t k P
   |false=>k≠i∧dig m t k P
  |_=>False
noncomputable def Ey (A:zP):List An→RR→Prop
 |[],r=>ao A r
 |a::l,r=>match a with
  | .s n=>GD n r (Ey A l)
  | .b x=>match r with
   | .br o t f=>o=some x∧Ey A l (match x with|true=>t|false=>f)
   |_=>False
  | .d x=>match r with
   | .op o k=>o=some x∧Ey A l (k x)
   |_=>False
  | .c m x=>match r with
   | .oc o i k=>match o with
    |some t=>dig m t i fun t=>t.get i=some x∧Ey A l (k x)
    |none=>False
   |_=>False
  | .h m=>match r with
   | .oc o i k=>match o with
    |some t=>dig m t i fun t=>match t with
     | .aq j c _=>i=j∧Ey A l (k c)
     |_=>False
    |none=>False
   |_=>False
theorem CX {P:RR→Prop} (h:∀r,P r→ao A r) (n:Nat):∀(r:RR),GD n r P→ao A r:=by
 induction n with
 |zero=>exact h
 |succ n ih=>
  intro r p;cases r with
  |br o t f=>cases o with
   |none=>exact p.elim
   |some b=>cases b with
    |true=>exact ih t p
    |false=>exact ih f p
  |op o k=>cases o with
   |none=>exact p.elim
   |some d=>exact ih (k d) p
  |oc o i k=>cases o with
   |none=>exact p.elim
   |some t=>
    have p:match t.get i with|some d=>GD n (k d) P|none=>False:=p
    show match t.get i with|some d=>ao A (k d)|none=>False
    cases e:t.get i with
    |none=>rw [e] at p;exact p.elim
    |some d=>rw [e] at p;exact ih (k d) p
  |_=>exact p.elim
theorem bA {a b:Nat} (h:Nat.beq a b=false):a≠b:=fun e=>by rw [e,Nat.beq_refl] at h;exact nof h.symm
theorem tV {P:TC→Prop} {R:Prop} {k:Nat}:∀{m:List Bool} {t:TC},dig m t k P→(∀t',P t'→t.get k=t'.get k→R)→R
 |[],_,p,f=>f _ p rfl
 |b::m,t,p,f=>by
  cases t with
  |aq i c t=>
   have g:k≠i→dig m t k P→R:=fun h p=>tV (m:=m) (t:=t) p fun t' p e=>f t' p (by rw [TC.ay,aS h];exact e);cases b with
   |true=>
    have p:(match Nat.beq k i with|true=>False|false=>dig m t k P):=p;cases e:Nat.beq k i with
    |true=>rw [e] at p;exact p.elim
    |false=>rw [e] at p;exact g (bA e) p
   |false=>exact g p.1 p.2
  |_=>exact p.elim
theorem eN {t:TC} {i:Nat} {c:Cell} {k:Cell→RR} (e:t.get i=some c) (p:ao A (k c)):ao A (.oc (some t) i k):=by
 show match t.get i with|some d=>ao A (k d)|none=>False
 rw [e];exact p
theorem B9 (l:List An):∀(r:RR),Ey A l r→ao A r:=by
 induction l with
 |nil=>exact fun Z p=>p
 |cons a l ih=>
  intro r p;cases a with
  |s n=>exact CX ih n r p
  |b x=>cases r with
   |br o t f=>
    obtain ⟨rfl,p⟩:=p;cases x with
    |true=>exact ih t p
    |false=>exact ih f p
   |_=>exact p.elim
  |d x=>cases r with
   |op o k=>obtain ⟨rfl,p⟩:=p;exact ih (k x) p
   |_=>exact p.elim
  |c m x=>cases r with
   |oc o i k=>cases o with
    |none=>exact p.elim
    |some t=>exact tV p fun t' p e=>eN (e.trans p.1) (ih (k x) p.2)
   |_=>exact p.elim
  |h m=>cases r with
   |oc o i k=>cases o with
    |none=>exact p.elim
    |some t=>
     refine tV p fun t' p e=>?_;cases t' with
     |aq j c t'=>obtain ⟨rfl,p⟩:=p;exact eN (e.trans (by rw [TC.ay,bk rfl])) (ih (k c) p)
     |_=>exact p.elim
   |_=>exact p.elim
theorem F5 {n a b:Nat} (h:Nat.beq a b=false):n+a≠n+b:=fun e=>bA h (Nat.add_left_cancel e)
end
section
variable {i N:Nat} {P:Prop}
noncomputable abbrev sS (s:String):DV:= .str (Str.ofString s)
noncomputable abbrev I (n:Nat):DV:= .int (.ofNat n)
abbrev Ge (R:Rg) (i:Nat) (c:Cell):Prop:=R.t.get i=some c
abbrev Gl (R:Rg) (i v:Nat) (l:zL):Prop:=R.t.get i=some ⟨v,.list l⟩
abbrev So (b:Bool):Prop:=some b=some true
abbrev Sn (b:Bool):Prop:=some b=some false
abbrev Sm (n:Nat):Prop:=some (small n)=some true
noncomputable abbrev ov (i v:Nat) (l:zL) (t:TC):TC:= .aq i ⟨v+1,.list l⟩ t
noncomputable abbrev cl (E G H K L M J O S Q U F:Rg):ah:=[E,G,H,K,L,M,J,O,S,Q,U,F]
noncomputable abbrev tk (t:Nat):Nat:=8+10*t
noncomputable abbrev stC (v r:Nat):Cell:=⟨v,.inst 483 [(21,.aj r 1),(61,.aj r 13),(62,.aj r 15),(39,.aj r 17),(63,.aj r 10),(64,.aj r 11),(65,I 0)]⟩
noncomputable def mw (r k:Nat) (ak:Nat) (aK:Str) (so fg ba cc fin:Int):List (Nat×DV):=[(24,I ak),(29,.str aK),(20,.int so),(30,.int fg),(31,.int ba),(34,.aj r (k+1)),(32,.aj r (k+2)),(35,.aj r (k+3)),(36,.aj r (k+4)),(38,.aj r (k+5)),(39,.aj r (k+6)),(33,I 0),(40,.int cc),(41,.int (.negSucc 0)),(42,.aj r (k+7)),(43,.aj r (k+8)),(44,.aj r (k+9)),(45,.int fin),(46,I 0)]
noncomputable abbrev lK (v r k:Nat) (ak:Nat) (aK:Str) (so fg ba cc fin:Int):Cell:=⟨v,.inst 420 (mw r k ak aK so fg ba cc fin)⟩
noncomputable abbrev xM (v:Nat):Cell:=⟨v,.dict .s [(sS "types",.aj 1 1),(sS "names",.aj 1 2),(sS "asms",.aj 1 3),(sS "fields",.aj 1 5),(sS "methods",.aj 1 7),(sS "entry",I 0)]⟩
noncomputable def xV (r k:Nat) (ak:Nat) (aK:Str) (so fg:Int) (ba:DV) (cc fin:Int):List (DV×DV):=[(sS "tid",I ak),(sS "name",.str aK),(sS "sort",.int so),(sS "flags",.int fg),(sS "base",ba),(sS "asm",I 0),(sS "cctor",.int cc),(sS "under",.int (.negSucc 0)),(sS "finaliser",.int fin),(sS "home",I 0),(sS "ifaces",.aj r (k+1)),(sS "fields",.aj r (k+2)),(sS "methods",.aj r (k+3)),(sS "impls",.aj r (k+4)),(sS "props",.aj r (k+5)),(sS "events",.aj r (k+6)),(sS "params",.aj r (k+7)),(sS "variances",.aj r (k+8)),(sS "bounds",.aj r (k+9))]
noncomputable abbrev n9 (v r k:Nat) (ak:Nat) (aK:Str) (so fg:Int) (ba:DV) (cc fin:Int):Cell:=⟨v,.dict .s (xV r k ak aK so fg ba cc fin)⟩
inductive PI (V:Type) where
 |a (x:V) (d:DV)
 |nl (x:V)
 |l (b:CB)
 |ap (j:Nat) (d:DV)
noncomputable def HW {β:Type} (ls:List (Nat×CB)) (j:Nat) (f:Nat→List DV→β) (e:β):β:=match ls[j]? with
 |some p=>match p.2 with
  | .list l=>f p.1 l
  |_=>e
 |none=>e
theorem EA {β Z:Type} {P:β→Z→Prop} {ls:List (Nat×CB)} {j:Nat} {f:Nat→List DV→β} {e:β} {g:Nat→List DV→Z} {e':Z} (z:∀u l,ls[j]?=some (u,.list l)→P (f u l) (g u l)) (y:P e e'):P (HW ls j f e) (HW ls j g e'):=by
 unfold HW;cases q:ls[j]? with
 |none=>exact y
 |some p=>
  cases p with
  |mk u b=>cases b with
   |list l=>exact z u l q
   |_=>exact y
section
variable {V:Type} (r:Nat) (w:List (V×DV)→CB) (k:Nat)
noncomputable def pz:List (PI V)→Nat→List (V×DV)→List (Nat×CB)→TC→TC
 |[],_,_,_,T=>T
 |i::is,v,as,ls,T=>match i with
  | .a x d=>pz is (v+1) (as++[(x,d)]) ls (.aq k ⟨v+1,w (as++[(x,d)])⟩ T)
  | .nl x=>pz is (v+1) (as++[(x,.aj r (k+1+ls.length))]) (ls++[(0,.list [])]) (.aq k ⟨v+1,w (as++[(x,.aj r (k+1+ls.length))])⟩ (.aq (k+1+ls.length) ⟨0,.list []⟩ T))
  | .l b=>pz is v as (ls++[(0,b)]) (.aq (k+1+ls.length) ⟨0,b⟩ T)
  | .ap j d=>HW ls j (fun u l=>pz is v as (ls.set j (u+1,.list (l++[d]))) (.aq (k+1+j) ⟨u+1,.list (l++[d])⟩ T)) T
noncomputable def CQ:List (PI V)→Nat→List (V×DV)→List (Nat×CB)→Nat×List (V×DV)×List (Nat×CB)
 |[],v,as,ls=>(v,as,ls)
 |i::is,v,as,ls=>match i with
  | .a x d=>CQ is (v+1) (as++[(x,d)]) ls
  | .nl x=>CQ is (v+1) (as++[(x,.aj r (k+1+ls.length))]) (ls++[(0,.list [])])
  | .l b=>CQ is v as (ls++[(0,b)])
  | .ap j d=>HW ls j (fun u l=>CQ is v as (ls.set j (u+1,.list (l++[d])))) (v,as,ls)
structure j_ (v:Nat) (as:List (V×DV)) (ls:List (Nat×CB)) (T0 T:TC):Prop where
 bX:T.get k=some ⟨v,w as⟩
 ls:∀i u b,ls[i]?=some (u,b)→T.get (k+1+i)=some ⟨u,b⟩
 old:∀j,j<k→T.get j=T0.get j
variable {r w k} {T0 T:TC} {v u:Nat} {as:List (V×DV)} {ls:List (Nat×CB)} {b:CB}
theorem j_.app (P:j_ w k v as ls T0 T):j_ w k v as (ls++[(u,b)]) T0 (.aq (k+1+ls.length) ⟨u,b⟩ T):=by
 refine ⟨by rw [TC.ay,aS R8];exact P.bX,fun i u' b' e=>?_,fun j Y=>by rw [TC.ay,aS (R9 Y)];exact P.old j Y⟩;rw [TC.ay];by_cases q:i=ls.length
 ·subst q
  rw [bk rfl];rw [Bx (jd _),Nat.sub_self] at e;cases e;rfl
 ·rw [aS (VZ q)]
  refine P.ls i u' b' ?_;have hi:i<ls.length:=by have:=(jy e).1;rw [fO] at this;exact V3 this q
  rwa [uR hi] at e
theorem j_.DL {v':Nat} {as':List (V×DV)} (P:j_ w k v as ls T0 T):j_ w k v' as' ls T0 (.aq k ⟨v',w as'⟩ T):=
 ⟨by rw [TC.ay,bk rfl],fun i u b e=>by rw [TC.ay,aS V4];exact P.ls i u b e,fun j Y=>by rw [TC.ay,aS (HE Y)];exact P.old j Y⟩
theorem j_.put {j u':Nat} {b':CB} (P:j_ w k v as ls T0 T) (e:ls[j]?=some (u,b)):j_ w k v as (ls.set j (u',b')) T0 (.aq (k+1+j) ⟨u',b'⟩ T):=by
 refine ⟨by rw [TC.ay,aS R8];exact P.bX,fun i u2 b2 f=>?_,fun i hi=>by rw [TC.ay,aS (R9 hi)];exact P.old i hi⟩;rw [TC.ay];rw [List.getElem?_set] at f;by_cases q:j=i
 ·subst q
  rw [bk rfl];rw [bk rfl,bk (jy e).1] at f;cases f;rfl
 ·rw [aS (V5 q)]
  rw [aS q] at f;exact P.ls i u2 b2 f
variable (r w k)
theorem lg:∀{is:List (PI V)} {v:Nat} {as:List (V×DV)} {ls:List (Nat×CB)} {T:TC},j_ w k v as ls T0 T→j_ w k (CQ r k is v as ls).1 (CQ r k is v as ls).2.1 (CQ r k is v as ls).2.2 T0 (pz r w k is v as ls T)
 |[],_,_,_,_,P=>P
 | .a x d::is,v,as,ls,T,P=>lg (is:=is) P.DL
 | .nl x::is,v,as,ls,T,P=>lg (is:=is) P.app.DL
 | .l b::is,v,as,ls,T,P=>lg (is:=is) P.app
 | .ap j d::is,v,as,ls,T,P=>EA (P:=fun (s:Nat×List (V×DV)×List (Nat×CB)) T=>j_ w k s.1 s.2.1 s.2.2 T0 T) (fun u l e=>lg (is:=is) (P.put e)) P
end
noncomputable abbrev c5 (w:Nat):List (Nat×DV)→CB:= .inst w
noncomputable abbrev mY:List (DV×DV)→CB:= .dict .s
noncomputable def E4 (fid ak:Nat) (nm:DV):List (PI Nat):=[.a 47 (I fid),.a 48 (I ak),.a 29 nm,.a 49 (I 7),.a 50 (I 6),.a 30 (I 0),.a 51 .none]
noncomputable def xN (mid ak:Nat) (nm:DV) (ac fl:Nat):List (PI Nat):=[.a 52 (I mid),.a 48 (I ak),.a 29 nm,.a 50 (I ac),.a 30 (I fl),.a 54 (I 0),.nl 55,.nl 56,.a 53 (I 0),.a 32 (.ai []),.l (.list []),.a 57 (.ai []),.a 58 (.ai []),.a 59 .none,.a 60 (I 0)]
noncomputable def tyP {V:Type} (f:DV→List (PI V)):List DV→List (PI V)
 |[]=>[]
 |d::l=>f d++tyP f l
noncomputable def Bm (ak:Nat) (aK:Str) (ps:zL):List (PI Nat):=[.a 24 (I ak),.a 29 (.str aK),.a 20 (I 2),.a 30 (I 2),.a 31 (I 16),.nl 34,.nl 32,.nl 35,.nl 36]++tyP (fun d=>[.ap 1 d,.ap 2 (I 0),.ap 3 (.ai [I 0,.ai []])]) ps++[.nl 38,.nl 39,.a 33 (I 0),.a 40 (I 0),.a 41 (.int (.negSucc 0)),.nl 42,.nl 43,.nl 44,.a 45 (I 0),.a 46 (I 0)]
noncomputable def abcd (r:Nat):List DV:=[sS "A",sS "B",sS "C",sS "D"].take r
structure DG where
 a:Bool
 q:Prop→Prop
 ok:∀{P:Prop} (p:P),q P
structure AP where
 a:List An→List An
 q:Prop→Prop
 ok:∀{P:Prop} (p:P),q P
noncomputable def DG.t:DG:=⟨true,fun P=>P,fun p=>p⟩
noncomputable def DG.f {k:Nat} (h:k≠i):DG:=⟨false,fun P=>k≠i∧P,fun p=>⟨h,p⟩⟩
noncomputable def nQ (N a b:Nat):Prop:=match Nat.beq a b with
 |true=>N=N
 |false=>N+a≠N+b
theorem Ec {a b:Nat}:nQ N a b:=by
 unfold nQ;cases h:Nat.beq a b with
 |true=>rfl
 |false=>exact F5 h
noncomputable def DG.n (N a b:Nat):DG:=⟨false,fun P=>nQ N a b∧P,fun p=>⟨Ec,p⟩⟩
noncomputable def dQ (l:List DG) (P:Prop):Prop:=l.foldr (fun a P=>a.q P) P
theorem ze (p:P):∀l:List DG,dQ l P
 |[]=>p
 |a::l=>a.ok (ze p l)
noncomputable def gQ (N a:Nat) (m:List Nat) (P:Prop):Prop:=m.foldr (fun b P=>nQ N a b∧P) (N+a=N+a∧P)
theorem DT {a:Nat} (p:P):∀l:List Nat,gQ N a l P
 |[]=>⟨rfl,p⟩
 |_::l=>⟨Ec,DT p l⟩
namespace AP
noncomputable def s (n:Nat):AP:=⟨fun l=> .s n::l,fun P=>P,fun p=>p⟩
noncomputable def b {o:Option Bool} {x:Bool} (h:o=some x):AP:=⟨fun l=> .b x::l,fun P=>o=some x∧P,fun p=>⟨h,p⟩⟩
noncomputable def d {o:Option DV} {x:DV} (h:o=some x):AP:=⟨fun l=> .d x::l,fun P=>o=some x∧P,fun p=>⟨h,p⟩⟩
noncomputable def k (m:List DG) {t:TC} {x:Cell} (h:t.get i=some x):AP:=⟨fun l=> .c (m.map DG.a) x::l,fun P=>dQ m (t.get i=some x∧P),fun p=>ze (P:=_∧_) ⟨h,p⟩ m⟩
noncomputable def c {t:TC} {x:Cell} (h:t.get i=some x):AP:=k [] h
noncomputable def w (m:List DG) (i:Nat):AP:=⟨fun l=> .h (m.map DG.a)::l,fun P=>dQ m (i=i∧P),fun p=>ze (P:=_∧_) ⟨rfl,p⟩ m⟩
theorem SK {N:Nat}:∀{l:List (Nat×List Nat)} {P:Prop} (p:P),l.foldr (fun a P=>gQ N (Nat.mod a.1 100) a.2 P) P
 |[],_,p=>p
 |_::_,_,p=>DT (SK p) _
noncomputable def h (N:Nat) (l:List (Nat×List Nat)):AP:=⟨fun k=>l.foldr (fun a k=> .h (a.2.map fun Z=>false):: .s (Nat.div a.1 100)::k) k,fun P=>l.foldr (fun a P=>gQ N (Nat.mod a.1 100) a.2 P) P,SK⟩
end AP
noncomputable def RC (l:List AP):List An:=l.foldr (fun a l=>a.a l) []
noncomputable def rQ (l:List AP) (P:Prop):Prop:=l.foldr (fun a P=>a.q P) P
theorem Ei (p:P):∀l:List AP,rQ l P
 |[]=>p
 |a::l=>a.ok (Ei p l)
theorem dw {X:zP} {r:RR} (l:List AP) (p:P) (e:Ey X (RC l) r=rQ l P:=by kernel_rfl):ao X r:=B9 (RC l) r (e▸Ei p l)
noncomputable def o9 (ak:Nat) (aK:Str):List (DV×DV):=[(sS "tid",I ak),(sS "name",.str aK),(sS "sort",I 2),(sS "flags",I 2),(sS "base",.ai [I 2,I 2,.ai []]),(sS "asm",I 0),(sS "cctor",I 0),(sS "under",.int (.negSucc 0))]
noncomputable def AO (ps:zL):List (PI DV):=[.a (sS "finaliser") (I 0),.a (sS "home") (I 0),.nl (sS "ifaces"),.nl (sS "fields"),.nl (sS "methods"),.nl (sS "impls"),.nl (sS "props"),.nl (sS "events"),.nl (sS "params"),.nl (sS "variances"),.nl (sS "bounds")]++tyP (fun d=>[.ap 6 d,.l (.dict .s [(sS "+",I 1),(sS "-",I 2)]),.ap 7 (I 0),.ap 8 (.ai [I 0,.ai []])]) ps
noncomputable def Gv (r k:Nat) (ak:Nat) (aK:Str) (so fg:Int) (ba:DV) (cc fin:Int):List (DV×DV):=[(sS "tid",I ak),(sS "name",.str aK),(sS "sort",.int so),(sS "flags",.int fg),(sS "asm",I 0),(sS "cctor",.int cc),(sS "home",I 0),(sS "base",ba),(sS "under",.int (.negSucc 0)),(sS "finaliser",.int fin),(sS "ifaces",.aj r (k+1)),(sS "fields",.aj r (k+5)),(sS "methods",.aj r (k+6)),(sS "impls",.aj r (k+7)),(sS "props",.aj r (k+8)),(sS "events",.aj r (k+9)),(sS "params",.aj r (k+2)),(sS "variances",.aj r (k+3)),(sS "bounds",.aj r (k+4))]
noncomputable def nI:List MS:=match fC.body with
 |[]=>[]
 |m::_=>match m with
  | .cj _ _ b=>b
  |_=>[]
noncomputable def c8 (i:Nat):ME:=match aL fC.body i with
 |some m=>match m with
  | .cj _ e _=>e
  | .b7 _ e=>e
  | .cS _ _ e=>match e with
   | .comp _ e _ _ _ _=>e
   |e=>e
  | .ret e=>match e with
   |some e=>e
   |none=> .bad
  |_=> .bad
 |none=> .bad
noncomputable def bB (i:Nat):MS:=match aL kY.body i with
 |some m=>m
 |none=> .bad
abbrev eX (X:zP) (E G H K L M J O S Q U F:Rg) (n op ak i:Nat):Prop:=ao X (run PG (n+60) false 9 (.call 728 [.aj 2 0,.aj 1 8,I op,I ak,I i]) (cl E G H K L M J O S Q U F) [])
abbrev gj (X:zP) (E G H K L M J O S Q U F:Rg) (n op ak i:Nat):Prop:=ao X (run PG (n+60) false 10 (.call 749 [.aj 1 8,I op,I ak,I i]) (cl E G H K L M J O S Q U F) [])
end
section
section
variable {n:Nat} {E C D F G H J K L Q U A:Rg} {ak i:Nat} {v0 v1 v2 y v4 v5 w0 w1 w2 w3 w4 w5 w6:Nat} {ty my l fl ml:zL} {aK:Str} {so fg ba cc fin:Int} {d mb a:DV} {B own x:Nat} {nl ki:zD} {as:List (Nat×DV)} {S:zP}
section
variable (g:Sm (i%2)) (j:aL [I 7,I 13] (i%2)=some (d)) (P:Ge D 0 (stC v0 2)) (e:Gl D 13 v1 ty) (X:Sm ak) (N:aL ty ak=some (.aj 2 (tk ak))) (T:Ge D (tk ak) (lK v2 2 (tk ak) ak aK so fg ba cc fin)) (Z:Gl D (tk ak+1) y l)
include g j P e X N T Z
theorem L3 (q:(iX l d)=some false) (Y:Sm l.length) (p:S (.v (I 0)) (cl E C ⟨D.n,ov (tk ak+1) y (l++[d]) D.t⟩ F G H J K L Q U A) []):eX S E C D F G H J K L Q U A n 0 ak i:=dw [.s 2,.b g,.d j,.c P,.c e,.b X,.d N,.c T,.c Z,.b q,.c T,.c Z,.c Z,.b Y,.s 11] p
theorem L4 (q:(iX l d)=some true) (p:S (.v (I 0)) (cl E C D F G H J K L Q U A) []):eX S E C D F G H J K L Q U A n 0 ak i:=dw [.s 2,.b g,.d j,.c P,.c e,.b X,.d N,.c T,.c Z,.b q,.s 11] p
end
section
variable (g:Ge D 0 (stC v0 2))
include g
section
variable (j:Gl D 13 v1 ty) (P:Sm ak) (e:aL ty ak=some (.aj 2 (tk ak)))
include j P e
section
variable (X:Ge D (tk ak) (lK v2 2 (tk ak) ak aK so fg ba cc fin))
include X
theorem Tc (N:Gl D (tk ak+4) y l) (T:So (Nat.blt 0 l.length)) (p:S (.v (I 0)) (cl E C ⟨D.n,ov (tk ak+4) y (l.set 0 (.ai [I (i%8),.ai [I 7]])) D.t⟩ F G H J K L Q U A) []):eX S E C D F G H J K L Q U A n 1 ak i:=dw [.s 4,.c g,.c j,.b P,.d e,.c X,.c N,.s 1,.b T,.s 10] p
theorem Td (N:Gl D (tk ak+3) y l) (T:So (Nat.blt 0 l.length)) (p:S (.v (I 0)) (cl E C ⟨D.n,ov (tk ak+3) y (l.set 0 (I (i%3))) D.t⟩ F G H J K L Q U A) []):eX S E C D F G H J K L Q U A n 2 ak i:=dw [.s 3,.c g,.c j,.b P,.d e,.c X,.c N,.s 1,.b T,.s 9] p
theorem L5 (N:Gl D (tk ak+8) y l) (T:(iX l (.ai [.str ⟨⟨[80]⟩⟩,I 7,I ((i%2)),I 0,.ai []]))=some false) (Z:Sm l.length) (p:S (.v (I 0)) (cl E C ⟨D.n,ov (tk ak+8) y (l++[.ai [.str ⟨⟨[80]⟩⟩,I 7,I (i%2),I 0,.ai []]]) D.t⟩ F G H J K L Q U A) []):eX S E C D F G H J K L Q U A n 7 ak i:=dw [.s 9,.c g,.c j,.b P,.d e,.c X,.s 1,.c N,.b T,.c N,.c N,.b Z,.s 4] p
theorem L6 (N:Gl D (tk ak+8) y l) (T:(iX l (.ai [.str ⟨⟨[80]⟩⟩,I 7,I ((i%2)),I 0,.ai []]))=some true) (p:S (.v (I 0)) (cl E C D F G H J K L Q U A) []):eX S E C D F G H J K L Q U A n 7 ak i:=dw [.s 9,.c g,.c j,.b P,.d e,.c X,.s 1,.c N,.b T,.s 4] p
theorem L7 (N:Gl D (tk ak+9) y l) (T:(iX l (.ai [.str ⟨⟨[69]⟩⟩,I 13,I ((i%2)),I 0]))=some false) (Z:Sm l.length) (p:S (.v (I 0)) (cl E C ⟨D.n,ov (tk ak+9) y (l++[.ai [.str ⟨⟨[69]⟩⟩,I 13,I (i%2),I 0]]) D.t⟩ F G H J K L Q U A) []):eX S E C D F G H J K L Q U A n 8 ak i:=dw [.s 9,.c g,.c j,.b P,.d e,.c X,.s 1,.c N,.b T,.c N,.c N,.b Z,.s 3] p
theorem L8 (N:Gl D (tk ak+9) y l) (T:(iX l (.ai [.str ⟨⟨[69]⟩⟩,I 13,I ((i%2)),I 0]))=some true) (p:S (.v (I 0)) (cl E C D F G H J K L Q U A) []):eX S E C D F G H J K L Q U A n 8 ak i:=dw [.s 9,.c g,.c j,.b P,.d e,.c X,.s 1,.c N,.b T,.s 3] p
theorem L_ (N:Gl D (tk ak+7) y l) (T:(iX l (.ai [I ((i%2)),I 12,I 1]))=some false) (Z:Sm l.length) (p:S (.v (I 0)) (cl E C ⟨D.n,ov (tk ak+7) y (l++[.ai [I (i%2),I 12,I 1]]) D.t⟩ F G H J K L Q U A) []):eX S E C D F G H J K L Q U A n 9 ak i:=dw [.s 10,.c g,.c j,.b P,.d e,.c X,.s 1,.c N,.b T,.c N,.c N,.b Z,.s 2] p
theorem Ma (N:Gl D (tk ak+7) y l) (T:(iX l (.ai [I ((i%2)),I 12,I 1]))=some true) (p:S (.v (I 0)) (cl E C D F G H J K L Q U A) []):eX S E C D F G H J K L Q U A n 9 ak i:=dw [.s 10,.c g,.c j,.b P,.d e,.c X,.s 1,.c N,.b T,.s 2] p
end
theorem Te (X:Gl D 15 v4 fl) (N:Sm fl.length) (T:tk ak≠15) (Z:Ge D (tk ak) (lK v2 2 (tk ak) ak aK so fg ba cc fin)) (q:tk ak+5≠15) (Y:Gl D (tk ak+5) y l) (O:Sm l.length) (p:S (.v (I fl.length)) (cl E C ⟨D.n,ov (tk ak+5) y (l++[I fl.length]) (ov 15 v4 (fl++[.aj 9 Q.n]) D.t)⟩ F G H J K L ⟨Q.n+1,pz 9 (c5 441) Q.n (E4 (fl.length) ak (.str ⟨⟨[102]⟩⟩)) 0 [] [] (.aq Q.n ⟨0,.inst 441 []⟩ Q.t)⟩ U A) []):eX S E C D F G H J K L Q U A n 3 ak i:=dw [.s 4,.c g,.c j,.b P,.d e,.c g,.c X,.b N,.c g,.c X,.h Q.n [(0,[]),(0,[]),(0,[]),(0,[]),(0,[]),(0,[]),(0,[])],.c X,.b N,.k [.f T] Z,.k [.f q] Y,.k [.f q] Y,.b O] p
theorem Tf (X:Gl D 17 v5 ml) (N:Sm ml.length) (T:tk ak≠17) (Z:Ge D (tk ak) (lK v2 2 (tk ak) ak aK so fg ba cc fin)) (q:tk ak+6≠17) (Y:Gl D (tk ak+6) y l) (O:Sm l.length) (V:0≠tk ak+6) (M:17≠tk ak+6) (R:aL (ml++[DV.aj 9 Q.n]) ml.length=some (.aj 9 Q.n)) (o:13≠tk ak+6) (p:S (.v (I ml.length)) (cl E C ⟨D.n,.aq (tk ak) ⟨v2+1,.inst 420 (mw 2 (tk ak) ak aK so fg ba (.ofNat ml.length) fin)⟩ (ov (tk ak+6) y (l++[I ml.length]) (ov 17 v5 (ml++[.aj 9 Q.n]) D.t))⟩ F G H J K L ⟨Q.n+4,pz 9 (c5 462) Q.n (xN (ml.length) ak (.str ⟨⟨[46,99,99,116,111,114]⟩⟩) 1 65) 0 [] [] (.aq Q.n ⟨0,.inst 462 []⟩ Q.t)⟩ U A) []):eX S E C D F G H J K L Q U A n 4 ak i:=dw [.s 6,.c g,.c j,.b P,.d e,.c g,.c X,.b N,.c g,.c X,.s 2,.h Q.n [(0,[]),(0,[]),(0,[]),(0,[]),(0,[]),(100,[]),(100,[1]),(0,[2]),(100,[]),(300,[]),(103,[]),(200,[3]),(0,[]),(0,[]),(0,[])],.c X,.b N,.k [.f T] Z,.k [.f q] Y,.k [.f q] Y,.b O,.k [.f V,.t] g,.w [.f M] 17,.b N,.d R,.k [.f V,.t] g,.h Q.n [(0,[])],.k [.f o,.t] j,.b P,.d e,.h Q.n [(100,[])],.k [.n (tk ak) 0 6,.f T] Z,.h Q.n [(100,[])]] p
end
theorem Tg (j:Gl D 11 y l) (P:Sm l.length) (e:Sm ((l++[DV.str ⟨⟨[109,111,114,101]⟩⟩]).length)) (p:S (.v (.int (eF (.ofNat (l++[DV.str ⟨⟨[109,111,114,101]⟩⟩]).length) (.ofNat 1)))) (cl E C ⟨D.n,ov 11 y (l++[.str ⟨⟨[109,111,114,101]⟩⟩]) D.t⟩ F G H J K L Q U A) []):eX S E C D F G H J K L Q U A n 6 ak i:=dw [.s 7,.c g,.c j,.c j,.b P,.k [.t] g,.s 1,.b e] p
end
theorem Ij (g:So (!Nat.blt 0 (i%65))) (p:S (.z (.int (.negSucc 0))) (cl E C D F G H J K L Q U A) []):eX S E C D F G H J K L Q U A n 10 ak i:=dw [.s 11,.b g] p
section
variable (g:Sn (!Nat.blt 0 (i%65)))
include g
theorem Ie (j:So (Nat.blt 63 (i%65))) (p:S (.z (.int (.negSucc 0))) (cl E C D F G H J K L Q U A) []):eX S E C D F G H J K L Q U A n 10 ak i:=dw [.s 11,.b g,.b j] p
section
variable (j:Sn (Nat.blt 63 (i%65))) (P:Ge D 0 (stC v0 2)) (e:Gl D 15 v4 fl) (X:Sm (i%65))
include j P e X
theorem Ig (N:aL fl (i%65)=some (.none)) (T:Gl D 13 v1 ty) (Z:Sm ak) (q:aL ty ak=some (.aj 2 (tk ak))) (Y:Ge D (tk ak) (lK v2 2 (tk ak) ak aK so fg ba cc fin)) (O:Gl D (tk ak+5) y l) (V:Sm l.length) (M:0≠tk ak+5) (R:15≠tk ak+5) (o:So ((i%65).blt fl.length)) (p:S (.v (I (i%65))) (cl E C ⟨D.n,ov 15 v4 (fl.set (i%65) (.aj 9 Q.n)) (ov (tk ak+5) y (l++[I (i%65)]) D.t)⟩ F G H J K L ⟨Q.n+1,pz 9 (c5 441) Q.n (E4 (i%65) ak (.str ⟨⟨[103]⟩⟩)) 0 [] [] (.aq Q.n ⟨0,.inst 441 []⟩ Q.t)⟩ U A) []):eX S E C D F G H J K L Q U A n 10 ak i:=dw [.s 11,.b g,.b j,.c P,.c e,.b X,.d N,.s 1,.c P,.c T,.b Z,.d q,.c Y,.c O,.c O,.b V,.h Q.n [(0,[]),(0,[]),(0,[]),(0,[]),(0,[]),(0,[]),(0,[])],.k [.f M] P,.k [.f R] e,.b X,.b o] p
section
variable (N:aL fl (i%65)=some (.aj 9 x)) (T:Ge Q x ⟨w6,.inst 441 ((47,a)::(48,I own)::as)⟩)
include N T
theorem Ih (Z:Sn (!own.beq ak)) (q:So ((i%65).blt fl.length)) (p:S (.v (I (i%65))) (cl E C ⟨D.n,ov 15 v4 (fl.set (i%65) (.aj 9 Q.n)) D.t⟩ F G H J K L ⟨Q.n+1,pz 9 (c5 441) Q.n (E4 (i%65) ak (.str ⟨⟨[103]⟩⟩)) 0 [] [] (.aq Q.n ⟨0,.inst 441 []⟩ Q.t)⟩ U A) []):eX S E C D F G H J K L Q U A n 10 ak i:=dw [.s 11,.b g,.b j,.c P,.c e,.b X,.d N,.s 1,.c T,.b Z,.h Q.n [(0,[]),(0,[]),(0,[]),(0,[]),(0,[]),(0,[]),(0,[])],.c P,.c e,.b X,.b q] p
theorem Ii (Z:So (!own.beq ak)) (p:S (.z (.int (.negSucc 0))) (cl E C D F G H J K L Q U A) []):eX S E C D F G H J K L Q U A n 10 ak i:=dw [.s 11,.b g,.b j,.c P,.c e,.b X,.d N,.s 1,.c T,.b Z] p
end
end
end
section
variable (g:Sn (!Nat.blt 0 (254+i%3)))
include g
theorem Ik (j:So (Nat.blt 255 (254+i%3))) (p:S (.z (.int (.negSucc 0))) (cl E C D F G H J K L Q U A) []):eX S E C D F G H J K L Q U A n 11 ak i:=dw [.s 13,.b g,.b j] p
section
variable (j:Sn (Nat.blt 255 (254+i%3))) (P:Ge D 0 (stC v0 2)) (e:Gl D 17 v5 ml) (X:Sm (254+i%3))
include j P e X
section
variable (N:aL ml (254+i%3)=some (.aj 9 x)) (T:Ge Q x ⟨w6,.inst 462 ((52,a)::(48,I own)::as)⟩)
include N T
theorem Il (Z:So (!own.beq ak)) (p:S (.z (.int (.negSucc 0))) (cl E C D F G H J K L Q U A) []):eX S E C D F G H J K L Q U A n 11 ak i:=dw [.s 13,.b g,.b j,.c P,.c e,.b X,.d N,.s 1,.c T,.b Z] p
section
variable (Z:Sn (!own.beq ak)) (q:So ((254+i%3).blt ml.length)) (Y:Gl D 13 v1 ty) (O:Sm ak) (V:aL ty ak=some (.aj 2 (tk ak))) (M:tk ak≠17) (R:Ge D (tk ak) (lK v2 2 (tk ak) ak aK so fg ba cc fin)) (o:Sn (ck cc (Int.ofNat (254+i%3))))
include Z q Y O V M R o
section
variable (u:Sn (ck fin (Int.ofNat (254+i%3)))) (m:aL (ml.set (254+i%3) (.aj 9 Q.n)) (254+i%3)=some (.aj 9 Q.n))
include u m
theorem B4 (gM:So (ak.beq 1)) (p:S (.v (I (254+i%3))) (cl E C ⟨D.n,.aq (tk ak) ⟨v2+1,.inst 420 (mw 2 (tk ak) ak aK so fg ba cc (.ofNat (254+i%3)))⟩ (ov 17 v5 (ml.set (254+i%3) (.aj 9 Q.n)) D.t)⟩ F G H J K L ⟨Q.n+4,pz 9 (c5 462) Q.n (xN (254+i%3) ak (.str ⟨⟨[70,105,110,97,108,105,122,101]⟩⟩) 4 2) 0 [] [] (.aq Q.n ⟨0,.inst 462 []⟩ Q.t)⟩ U A) []):eX S E C D F G H J K L Q U A n 11 ak i:=dw [.s 13,.b g,.b j,.c P,.c e,.b X,.d N,.s 1,.c T,.b Z,.s 1,.h Q.n [(0,[]),(0,[]),(0,[]),(0,[]),(0,[]),(100,[]),(100,[1]),(0,[2]),(100,[]),(300,[]),(103,[]),(200,[3]),(0,[]),(0,[]),(0,[])],.c P,.c e,.b X,.b q,.k [.t] P,.k [.t] Y,.b O,.d V,.k [.f M] R,.b o,.k [.f M] R,.b u,.k [.t] P,.s 1,.b X,.d m,.k [.t] P,.h Q.n [(0,[])],.k [.t] Y,.b O,.d V,.h Q.n [(100,[]),(100,[]),(200,[]),(200,[]),(100,[]),(0,[])],.b gM,.k [.f M] R] p
theorem B0 (gM:Sn (ak.beq 1)) (p:S (.v (I (254+i%3))) (cl E C ⟨D.n,.aq (tk ak) ⟨v2+1,.inst 420 (mw 2 (tk ak) ak aK so fg ba cc (.ofNat (254+i%3)))⟩ (ov 17 v5 (ml.set (254+i%3) (.aj 9 Q.n)) D.t)⟩ F G H J K L ⟨Q.n+4,pz 9 (c5 462) Q.n (xN (254+i%3) ak (.str ⟨⟨[70,105,110,97,108,105,122,101]⟩⟩) 4 2) 0 [] [] (.aq Q.n ⟨0,.inst 462 []⟩ Q.t)⟩ U A) []):eX S E C D F G H J K L Q U A n 11 ak i:=dw [.s 13,.b g,.b j,.c P,.c e,.b X,.d N,.s 1,.c T,.b Z,.s 1,.h Q.n [(0,[]),(0,[]),(0,[]),(0,[]),(0,[]),(100,[]),(100,[1]),(0,[2]),(100,[]),(300,[]),(103,[]),(200,[3]),(0,[]),(0,[]),(0,[])],.c P,.c e,.b X,.b q,.k [.t] P,.k [.t] Y,.b O,.d V,.k [.f M] R,.b o,.k [.f M] R,.b u,.k [.t] P,.s 1,.b X,.d m,.k [.t] P,.h Q.n [(0,[])],.k [.t] Y,.b O,.d V,.h Q.n [(100,[]),(100,[]),(200,[]),(200,[]),(100,[]),(0,[])],.b gM,.h Q.n [(100,[])],.k [.f M] R] p
end
section
variable (u:So (ck fin (Int.ofNat (254+i%3)))) (m:0≠tk ak) (gM:17≠tk ak) (xx:aL (ml.set (254+i%3) (.aj 9 Q.n)) (254+i%3)=some (.aj 9 Q.n)) (xy:13≠tk ak)
include u m gM xx xy
theorem BZ (zB:So (ak.beq 1)) (p:S (.v (I (254+i%3))) (cl E C ⟨D.n,.aq (tk ak) ⟨v2+1+1,.inst 420 (mw 2 (tk ak) ak aK so fg ba cc (.ofNat (254+i%3)))⟩ (.aq (tk ak) ⟨v2+1,.inst 420 (mw 2 (tk ak) ak aK so fg ba cc (.ofNat 0))⟩ (ov 17 v5 (ml.set (254+i%3) (.aj 9 Q.n)) D.t))⟩ F G H J K L ⟨Q.n+4,pz 9 (c5 462) Q.n (xN (254+i%3) ak (.str ⟨⟨[70,105,110,97,108,105,122,101]⟩⟩) 4 2) 0 [] [] (.aq Q.n ⟨0,.inst 462 []⟩ Q.t)⟩ U A) []):eX S E C D F G H J K L Q U A n 11 ak i:=dw [.s 13,.b g,.b j,.c P,.c e,.b X,.d N,.s 1,.c T,.b Z,.s 1,.h Q.n [(0,[]),(0,[]),(0,[]),(0,[]),(0,[]),(100,[]),(100,[1]),(0,[2]),(100,[]),(300,[]),(103,[]),(200,[3]),(0,[]),(0,[]),(0,[])],.c P,.c e,.b X,.b q,.k [.t] P,.k [.t] Y,.b O,.d V,.k [.f M] R,.b o,.k [.f M] R,.b u,.k [.f M] R,.k [.f m,.t] P,.w [.f gM] 17,.b X,.d xx,.k [.f m,.t] P,.h Q.n [(0,[])],.k [.f xy,.t] Y,.b O,.d V,.h Q.n [(100,[]),(100,[]),(200,[]),(200,[]),(100,[]),(0,[])],.b zB,.h (tk ak) [(0,[])]] p
theorem BY (zB:Sn (ak.beq 1)) (p:S (.v (I (254+i%3))) (cl E C ⟨D.n,.aq (tk ak) ⟨v2+1+1,.inst 420 (mw 2 (tk ak) ak aK so fg ba cc (.ofNat (254+i%3)))⟩ (.aq (tk ak) ⟨v2+1,.inst 420 (mw 2 (tk ak) ak aK so fg ba cc (.ofNat 0))⟩ (ov 17 v5 (ml.set (254+i%3) (.aj 9 Q.n)) D.t))⟩ F G H J K L ⟨Q.n+4,pz 9 (c5 462) Q.n (xN (254+i%3) ak (.str ⟨⟨[70,105,110,97,108,105,122,101]⟩⟩) 4 2) 0 [] [] (.aq Q.n ⟨0,.inst 462 []⟩ Q.t)⟩ U A) []):eX S E C D F G H J K L Q U A n 11 ak i:=dw [.s 13,.b g,.b j,.c P,.c e,.b X,.d N,.s 1,.c T,.b Z,.s 1,.h Q.n [(0,[]),(0,[]),(0,[]),(0,[]),(0,[]),(100,[]),(100,[1]),(0,[2]),(100,[]),(300,[]),(103,[]),(200,[3]),(0,[]),(0,[]),(0,[])],.c P,.c e,.b X,.b q,.k [.t] P,.k [.t] Y,.b O,.d V,.k [.f M] R,.b o,.k [.f M] R,.b u,.k [.f M] R,.k [.f m,.t] P,.w [.f gM] 17,.b X,.d xx,.k [.f m,.t] P,.h Q.n [(0,[])],.k [.f xy,.t] Y,.b O,.d V,.h Q.n [(100,[]),(100,[]),(200,[]),(200,[]),(100,[]),(0,[])],.b zB,.h Q.n [(100,[])],.h (tk ak) [(0,[])]] p
end
end
end
section
variable (N:aL ml (254+i%3)=some (.none)) (T:Gl D 13 v1 ty) (Z:Sm ak) (q:aL ty ak=some (.aj 2 (tk ak))) (Y:Ge D (tk ak) (lK v2 2 (tk ak) ak aK so fg ba cc fin)) (O:Gl D (tk ak+6) y l) (V:Sm l.length) (M:0≠tk ak+6) (R:17≠tk ak+6) (o:So ((254+i%3).blt ml.length)) (u:13≠tk ak+6) (m:tk ak≠17) (gM:Sn (ck cc (Int.ofNat (254+i%3))))
include N T Z q Y O V M R o u m gM
section
variable (xx:Sn (ck fin (Int.ofNat (254+i%3)))) (xy:aL (ml.set (254+i%3) (.aj 9 Q.n)) (254+i%3)=some (.aj 9 Q.n))
include xx xy
theorem BX (zB:So (ak.beq 1)) (p:S (.v (I (254+i%3))) (cl E C ⟨D.n,.aq (tk ak) ⟨v2+1,.inst 420 (mw 2 (tk ak) ak aK so fg ba cc (.ofNat (254+i%3)))⟩ (ov 17 v5 (ml.set (254+i%3) (.aj 9 Q.n)) (ov (tk ak+6) y (l++[I (254+i%3)]) D.t))⟩ F G H J K L ⟨Q.n+4,pz 9 (c5 462) Q.n (xN (254+i%3) ak (.str ⟨⟨[70,105,110,97,108,105,122,101]⟩⟩) 4 2) 0 [] [] (.aq Q.n ⟨0,.inst 462 []⟩ Q.t)⟩ U A) []):eX S E C D F G H J K L Q U A n 11 ak i:=dw [.s 13,.b g,.b j,.c P,.c e,.b X,.d N,.s 1,.c P,.c T,.b Z,.d q,.c Y,.c O,.c O,.b V,.s 1,.h Q.n [(0,[]),(0,[]),(0,[]),(0,[]),(0,[]),(100,[]),(100,[1]),(0,[2]),(100,[]),(300,[]),(103,[]),(200,[3]),(0,[]),(0,[]),(0,[])],.k [.f M] P,.k [.f R] e,.b X,.b o,.k [.t,.f M] P,.k [.t,.f u] T,.b Z,.d q,.k [.f m,.n (tk ak) 0 6] Y,.b gM,.k [.f m,.n (tk ak) 0 6] Y,.b xx,.k [.t,.f M] P,.s 1,.b X,.d xy,.k [.t,.f M] P,.h Q.n [(0,[])],.k [.t,.f u] T,.b Z,.d q,.h Q.n [(100,[]),(100,[]),(200,[]),(200,[]),(100,[]),(0,[])],.b zB,.k [.f m,.n (tk ak) 0 6] Y] p
theorem BW (zB:Sn (ak.beq 1)) (p:S (.v (I (254+i%3))) (cl E C ⟨D.n,.aq (tk ak) ⟨v2+1,.inst 420 (mw 2 (tk ak) ak aK so fg ba cc (.ofNat (254+i%3)))⟩ (ov 17 v5 (ml.set (254+i%3) (.aj 9 Q.n)) (ov (tk ak+6) y (l++[I (254+i%3)]) D.t))⟩ F G H J K L ⟨Q.n+4,pz 9 (c5 462) Q.n (xN (254+i%3) ak (.str ⟨⟨[70,105,110,97,108,105,122,101]⟩⟩) 4 2) 0 [] [] (.aq Q.n ⟨0,.inst 462 []⟩ Q.t)⟩ U A) []):eX S E C D F G H J K L Q U A n 11 ak i:=dw [.s 13,.b g,.b j,.c P,.c e,.b X,.d N,.s 1,.c P,.c T,.b Z,.d q,.c Y,.c O,.c O,.b V,.s 1,.h Q.n [(0,[]),(0,[]),(0,[]),(0,[]),(0,[]),(100,[]),(100,[1]),(0,[2]),(100,[]),(300,[]),(103,[]),(200,[3]),(0,[]),(0,[]),(0,[])],.k [.f M] P,.k [.f R] e,.b X,.b o,.k [.t,.f M] P,.k [.t,.f u] T,.b Z,.d q,.k [.f m,.n (tk ak) 0 6] Y,.b gM,.k [.f m,.n (tk ak) 0 6] Y,.b xx,.k [.t,.f M] P,.s 1,.b X,.d xy,.k [.t,.f M] P,.h Q.n [(0,[])],.k [.t,.f u] T,.b Z,.d q,.h Q.n [(100,[]),(100,[]),(200,[]),(200,[]),(100,[]),(0,[])],.b zB,.h Q.n [(100,[])],.k [.f m,.n (tk ak) 0 6] Y] p
end
section
variable (xx:So (ck fin (Int.ofNat (254+i%3)))) (xy:0≠tk ak) (zB:17≠tk ak) (h21:aL (ml.set (254+i%3) (.aj 9 Q.n)) (254+i%3)=some (.aj 9 Q.n)) (h22:13≠tk ak)
include xx xy zB h21 h22
theorem BV (h23:So (ak.beq 1)) (p:S (.v (I (254+i%3))) (cl E C ⟨D.n,.aq (tk ak) ⟨v2+1+1,.inst 420 (mw 2 (tk ak) ak aK so fg ba cc (.ofNat (254+i%3)))⟩ (.aq (tk ak) ⟨v2+1,.inst 420 (mw 2 (tk ak) ak aK so fg ba cc (.ofNat 0))⟩ (ov 17 v5 (ml.set (254+i%3) (.aj 9 Q.n)) (ov (tk ak+6) y (l++[I (254+i%3)]) D.t)))⟩ F G H J K L ⟨Q.n+4,pz 9 (c5 462) Q.n (xN (254+i%3) ak (.str ⟨⟨[70,105,110,97,108,105,122,101]⟩⟩) 4 2) 0 [] [] (.aq Q.n ⟨0,.inst 462 []⟩ Q.t)⟩ U A) []):eX S E C D F G H J K L Q U A n 11 ak i:=dw [.s 13,.b g,.b j,.c P,.c e,.b X,.d N,.s 1,.c P,.c T,.b Z,.d q,.c Y,.c O,.c O,.b V,.s 1,.h Q.n [(0,[]),(0,[]),(0,[]),(0,[]),(0,[]),(100,[]),(100,[1]),(0,[2]),(100,[]),(300,[]),(103,[]),(200,[3]),(0,[]),(0,[]),(0,[])],.k [.f M] P,.k [.f R] e,.b X,.b o,.k [.t,.f M] P,.k [.t,.f u] T,.b Z,.d q,.k [.f m,.n (tk ak) 0 6] Y,.b gM,.k [.f m,.n (tk ak) 0 6] Y,.b xx,.k [.f m,.n (tk ak) 0 6] Y,.k [.f xy,.t,.f M] P,.w [.f zB] 17,.b X,.d h21,.k [.f xy,.t,.f M] P,.h Q.n [(0,[])],.k [.f h22,.t,.f u] T,.b Z,.d q,.h Q.n [(100,[]),(100,[]),(200,[]),(200,[]),(100,[]),(0,[])],.b h23,.h (tk ak) [(0,[])]] p
theorem BS (h23:Sn (ak.beq 1)) (p:S (.v (I (254+i%3))) (cl E C ⟨D.n,.aq (tk ak) ⟨v2+1+1,.inst 420 (mw 2 (tk ak) ak aK so fg ba cc (.ofNat (254+i%3)))⟩ (.aq (tk ak) ⟨v2+1,.inst 420 (mw 2 (tk ak) ak aK so fg ba cc (.ofNat 0))⟩ (ov 17 v5 (ml.set (254+i%3) (.aj 9 Q.n)) (ov (tk ak+6) y (l++[I (254+i%3)]) D.t)))⟩ F G H J K L ⟨Q.n+4,pz 9 (c5 462) Q.n (xN (254+i%3) ak (.str ⟨⟨[70,105,110,97,108,105,122,101]⟩⟩) 4 2) 0 [] [] (.aq Q.n ⟨0,.inst 462 []⟩ Q.t)⟩ U A) []):eX S E C D F G H J K L Q U A n 11 ak i:=dw [.s 13,.b g,.b j,.c P,.c e,.b X,.d N,.s 1,.c P,.c T,.b Z,.d q,.c Y,.c O,.c O,.b V,.s 1,.h Q.n [(0,[]),(0,[]),(0,[]),(0,[]),(0,[]),(100,[]),(100,[1]),(0,[2]),(100,[]),(300,[]),(103,[]),(200,[3]),(0,[]),(0,[]),(0,[])],.k [.f M] P,.k [.f R] e,.b X,.b o,.k [.t,.f M] P,.k [.t,.f u] T,.b Z,.d q,.k [.f m,.n (tk ak) 0 6] Y,.b gM,.k [.f m,.n (tk ak) 0 6] Y,.b xx,.k [.f m,.n (tk ak) 0 6] Y,.k [.f xy,.t,.f M] P,.w [.f zB] 17,.b X,.d h21,.k [.f xy,.t,.f M] P,.h Q.n [(0,[])],.k [.f h22,.t,.f u] T,.b Z,.d q,.h Q.n [(100,[]),(100,[]),(200,[]),(200,[]),(100,[]),(0,[])],.b h23,.h Q.n [(100,[])],.h (tk ak) [(0,[])]] p
end
end
end
end
section
variable (g:Ge C 8 (xM w0)) (j:Gl C 1 w1 my) (P:Sm ak) (e:aL my ak=some (.aj 1 B)) (X:Ge C B (n9 w2 1 B ak aK so fg mb cc fin))
include g j P e X
section
variable (N:Ge D 0 (stC v0 2)) (T:Ge D 1 ⟨w3,.inst 79 [(6,.aj 2 2),(7,.aj 2 3),(8,.aj 2 4),(9,.aj 2 5),(10,.aj 2 6)]⟩) (Z:Ge D 3 ⟨w4,.dict .r ki⟩) (q:b8 ki (.ai [I 2,I 2,.ai []]) (.int (.negSucc 0))=some (I 16)) (Y:Gl D 13 v1 ty) (O:Sm ty.length) (V:Ge D 10 ⟨w5,.dict .n nl⟩)
include N T Z q Y O V
theorem EN (M:some (I ((i%4)))=some (I 0)) (R:(eZ (aY nl (.ai [I 0,.str aK,I 0])))=some true) (p:S (.v (I ty.length)) (cl E C ⟨D.n,ov 13 v1 (ty++[.aj 9 (Q.n+2)]) D.t⟩ F G H J K L ⟨Q.n+12,pz 9 (c5 420) (Q.n+2) (Bm ty.length aK (abcd 0)) 0 [] [] (.aq (Q.n+2) ⟨0,.inst 420 []⟩ (.aq (Q.n+1) ⟨0,.list (abcd 0)⟩ (.aq Q.n ⟨0,.list (abcd 4)⟩ Q.t)))⟩ U A) []):eX S E C D F G H J K L Q U A n 5 ak i:=dw [.s 6,.c g,.s 1,.c j,.b P,.d e,.c X,.s 2,.h Q.n [(0,[])],.d M,.s 3,.c N,.s 2,.c T,.s 1,.c T,.c Z,.c Z,.d q,.s 1,.c N,.c Y,.b O,.c N,.c Y,.s 2,.h Q.n [(2,[]),(2,[]),(2,[]),(2,[]),(102,[]),(102,[3]),(102,[4]),(102,[5]),(2,[6]),(201,[2,6,2,5,2,4,2,3,2,2,2,2,2,2]),(102,[7]),(2,[8]),(2,[]),(2,[]),(102,[]),(102,[9]),(102,[10]),(2,[11]),(2,[]),(2,[])],.c Y,.b O,.h Q.n [(1,[2,2,2,11,2,10,2,9,2,2,2,2,8,2,7,2,6,2,5,2,4,2,3,2,2,2,2,2,2])],.s 2,.k [.t] N,.k [.t] V,.b R] p
theorem EM (M:some (I ((i%4)))=some (I 0)) (R:(eZ (aY nl (.ai [I 0,.str aK,I 0])))=some false) (o:Sm nl.length) (p:S (.v (I ty.length)) (cl E C ⟨D.n,.aq (10) ⟨w5+1,.dict .n (aM nl (.ai [I 0,.str aK,I 0]) (I ty.length))⟩ (ov 13 v1 (ty++[.aj 9 (Q.n+2)]) D.t)⟩ F G H J K L ⟨Q.n+12,pz 9 (c5 420) (Q.n+2) (Bm ty.length aK (abcd 0)) 0 [] [] (.aq (Q.n+2) ⟨0,.inst 420 []⟩ (.aq (Q.n+1) ⟨0,.list (abcd 0)⟩ (.aq Q.n ⟨0,.list (abcd 4)⟩ Q.t)))⟩ U A) []):eX S E C D F G H J K L Q U A n 5 ak i:=dw [.s 6,.c g,.s 1,.c j,.b P,.d e,.c X,.s 2,.h Q.n [(0,[])],.d M,.s 3,.c N,.s 2,.c T,.s 1,.c T,.c Z,.c Z,.d q,.s 1,.c N,.c Y,.b O,.c N,.c Y,.s 2,.h Q.n [(2,[]),(2,[]),(2,[]),(2,[]),(102,[]),(102,[3]),(102,[4]),(102,[5]),(2,[6]),(201,[2,6,2,5,2,4,2,3,2,2,2,2,2,2]),(102,[7]),(2,[8]),(2,[]),(2,[]),(102,[]),(102,[9]),(102,[10]),(2,[11]),(2,[]),(2,[])],.c Y,.b O,.h Q.n [(1,[2,2,2,11,2,10,2,9,2,2,2,2,8,2,7,2,6,2,5,2,4,2,3,2,2,2,2,2,2])],.s 2,.k [.t] N,.k [.t] V,.b R,.k [.t] N,.k [.t] V,.b o] p
theorem EP (M:some (I ((i%4)))=some (I 1)) (R:(eZ (aY nl (.ai [I 0,.str aK,I 1])))=some true) (p:S (.v (I ty.length)) (cl E C ⟨D.n,ov 13 v1 (ty++[.aj 9 (Q.n+2)]) D.t⟩ F G H J K L ⟨Q.n+12,pz 9 (c5 420) (Q.n+2) (Bm ty.length aK (abcd 1)) 0 [] [] (.aq (Q.n+2) ⟨0,.inst 420 []⟩ (.aq (Q.n+1) ⟨0,.list (abcd 1)⟩ (.aq Q.n ⟨0,.list (abcd 4)⟩ Q.t)))⟩ U A) []):eX S E C D F G H J K L Q U A n 5 ak i:=dw [.s 6,.c g,.s 1,.c j,.b P,.d e,.c X,.s 2,.h Q.n [(0,[])],.d M,.s 3,.c N,.s 2,.c T,.s 1,.c T,.c Z,.c Z,.d q,.s 1,.c N,.c Y,.b O,.c N,.c Y,.s 2,.h Q.n [(2,[]),(2,[]),(2,[]),(2,[]),(102,[]),(102,[3]),(102,[4]),(102,[5]),(2,[6]),(101,[2,6,2,5,2,4,2,3,2,2,2,2,2,2]),(2,[]),(4,[2,6,2,5,2]),(104,[2,6,2,5,2]),(2,[4]),(5,[4,2,6,2]),(105,[4,2,6,2]),(2,[5,4]),(206,[5,4,2]),(106,[5,4,2]),(201,[6,5,4,2,6,2,5,2,4,2,3,2,2,2,2,2,2]),(102,[7,6,5,4]),(2,[8]),(2,[]),(2,[]),(102,[]),(102,[9]),(102,[10]),(2,[11]),(2,[]),(2,[])],.c Y,.b O,.h Q.n [(1,[2,2,2,11,2,10,2,9,2,2,2,2,8,2,7,6,5,4,2,6,2,5,2,4,2,3,2,2,2,2,2,2])],.s 2,.k [.t] N,.k [.t] V,.b R] p
theorem EO (M:some (I ((i%4)))=some (I 1)) (R:(eZ (aY nl (.ai [I 0,.str aK,I 1])))=some false) (o:Sm nl.length) (p:S (.v (I ty.length)) (cl E C ⟨D.n,.aq (10) ⟨w5+1,.dict .n (aM nl (.ai [I 0,.str aK,I 1]) (I ty.length))⟩ (ov 13 v1 (ty++[.aj 9 (Q.n+2)]) D.t)⟩ F G H J K L ⟨Q.n+12,pz 9 (c5 420) (Q.n+2) (Bm ty.length aK (abcd 1)) 0 [] [] (.aq (Q.n+2) ⟨0,.inst 420 []⟩ (.aq (Q.n+1) ⟨0,.list (abcd 1)⟩ (.aq Q.n ⟨0,.list (abcd 4)⟩ Q.t)))⟩ U A) []):eX S E C D F G H J K L Q U A n 5 ak i:=dw [.s 6,.c g,.s 1,.c j,.b P,.d e,.c X,.s 2,.h Q.n [(0,[])],.d M,.s 3,.c N,.s 2,.c T,.s 1,.c T,.c Z,.c Z,.d q,.s 1,.c N,.c Y,.b O,.c N,.c Y,.s 2,.h Q.n [(2,[]),(2,[]),(2,[]),(2,[]),(102,[]),(102,[3]),(102,[4]),(102,[5]),(2,[6]),(101,[2,6,2,5,2,4,2,3,2,2,2,2,2,2]),(2,[]),(4,[2,6,2,5,2]),(104,[2,6,2,5,2]),(2,[4]),(5,[4,2,6,2]),(105,[4,2,6,2]),(2,[5,4]),(206,[5,4,2]),(106,[5,4,2]),(201,[6,5,4,2,6,2,5,2,4,2,3,2,2,2,2,2,2]),(102,[7,6,5,4]),(2,[8]),(2,[]),(2,[]),(102,[]),(102,[9]),(102,[10]),(2,[11]),(2,[]),(2,[])],.c Y,.b O,.h Q.n [(1,[2,2,2,11,2,10,2,9,2,2,2,2,8,2,7,6,5,4,2,6,2,5,2,4,2,3,2,2,2,2,2,2])],.s 2,.k [.t] N,.k [.t] V,.b R,.k [.t] N,.k [.t] V,.b o] p
theorem ES (M:some (I ((i%4)))=some (I 2)) (R:(eZ (aY nl (.ai [I 0,.str aK,I 2])))=some true) (p:S (.v (I ty.length)) (cl E C ⟨D.n,ov 13 v1 (ty++[.aj 9 (Q.n+2)]) D.t⟩ F G H J K L ⟨Q.n+12,pz 9 (c5 420) (Q.n+2) (Bm ty.length aK (abcd 2)) 0 [] [] (.aq (Q.n+2) ⟨0,.inst 420 []⟩ (.aq (Q.n+1) ⟨0,.list (abcd 2)⟩ (.aq Q.n ⟨0,.list (abcd 4)⟩ Q.t)))⟩ U A) []):eX S E C D F G H J K L Q U A n 5 ak i:=dw [.s 6,.c g,.s 1,.c j,.b P,.d e,.c X,.s 2,.h Q.n [(0,[])],.d M,.s 3,.c N,.s 2,.c T,.s 1,.c T,.c Z,.c Z,.d q,.s 1,.c N,.c Y,.b O,.c N,.c Y,.s 2,.h Q.n [(2,[]),(2,[]),(2,[]),(2,[]),(102,[]),(102,[3]),(102,[4]),(102,[5]),(2,[6]),(101,[2,6,2,5,2,4,2,3,2,2,2,2,2,2]),(2,[]),(4,[2,6,2,5,2]),(104,[2,6,2,5,2]),(2,[4]),(5,[4,2,6,2]),(105,[4,2,6,2]),(2,[5,4]),(206,[5,4,2]),(106,[5,4,2]),(101,[6,5,4,2,6,2,5,2,4,2,3,2,2,2,2,2,2]),(2,[6,5,4]),(4,[6,5]),(104,[6,5]),(2,[4,6,5,4]),(5,[4,6]),(105,[4,6]),(2,[5,4,6,5,4]),(206,[5,4]),(106,[5,4]),(201,[6,5,4,6,5,4,2,6,2,5,2,4,2,3,2,2,2,2,2,2]),(102,[7,6,5,4,6,5,4]),(2,[8]),(2,[]),(2,[]),(102,[]),(102,[9]),(102,[10]),(2,[11]),(2,[]),(2,[])],.c Y,.b O,.h Q.n [(1,[2,2,2,11,2,10,2,9,2,2,2,2,8,2,7,6,5,4,6,5,4,2,6,2,5,2,4,2,3,2,2,2,2,2,2])],.s 2,.k [.t] N,.k [.t] V,.b R] p
theorem ER (M:some (I ((i%4)))=some (I 2)) (R:(eZ (aY nl (.ai [I 0,.str aK,I 2])))=some false) (o:Sm nl.length) (p:S (.v (I ty.length)) (cl E C ⟨D.n,.aq (10) ⟨w5+1,.dict .n (aM nl (.ai [I 0,.str aK,I 2]) (I ty.length))⟩ (ov 13 v1 (ty++[.aj 9 (Q.n+2)]) D.t)⟩ F G H J K L ⟨Q.n+12,pz 9 (c5 420) (Q.n+2) (Bm ty.length aK (abcd 2)) 0 [] [] (.aq (Q.n+2) ⟨0,.inst 420 []⟩ (.aq (Q.n+1) ⟨0,.list (abcd 2)⟩ (.aq Q.n ⟨0,.list (abcd 4)⟩ Q.t)))⟩ U A) []):eX S E C D F G H J K L Q U A n 5 ak i:=dw [.s 6,.c g,.s 1,.c j,.b P,.d e,.c X,.s 2,.h Q.n [(0,[])],.d M,.s 3,.c N,.s 2,.c T,.s 1,.c T,.c Z,.c Z,.d q,.s 1,.c N,.c Y,.b O,.c N,.c Y,.s 2,.h Q.n [(2,[]),(2,[]),(2,[]),(2,[]),(102,[]),(102,[3]),(102,[4]),(102,[5]),(2,[6]),(101,[2,6,2,5,2,4,2,3,2,2,2,2,2,2]),(2,[]),(4,[2,6,2,5,2]),(104,[2,6,2,5,2]),(2,[4]),(5,[4,2,6,2]),(105,[4,2,6,2]),(2,[5,4]),(206,[5,4,2]),(106,[5,4,2]),(101,[6,5,4,2,6,2,5,2,4,2,3,2,2,2,2,2,2]),(2,[6,5,4]),(4,[6,5]),(104,[6,5]),(2,[4,6,5,4]),(5,[4,6]),(105,[4,6]),(2,[5,4,6,5,4]),(206,[5,4]),(106,[5,4]),(201,[6,5,4,6,5,4,2,6,2,5,2,4,2,3,2,2,2,2,2,2]),(102,[7,6,5,4,6,5,4]),(2,[8]),(2,[]),(2,[]),(102,[]),(102,[9]),(102,[10]),(2,[11]),(2,[]),(2,[])],.c Y,.b O,.h Q.n [(1,[2,2,2,11,2,10,2,9,2,2,2,2,8,2,7,6,5,4,6,5,4,2,6,2,5,2,4,2,3,2,2,2,2,2,2])],.s 2,.k [.t] N,.k [.t] V,.b R,.k [.t] N,.k [.t] V,.b o] p
theorem EU (M:some (I ((i%4)))=some (I 3)) (R:(eZ (aY nl (.ai [I 0,.str aK,I 3])))=some true) (p:S (.v (I ty.length)) (cl E C ⟨D.n,ov 13 v1 (ty++[.aj 9 (Q.n+2)]) D.t⟩ F G H J K L ⟨Q.n+12,pz 9 (c5 420) (Q.n+2) (Bm ty.length aK (abcd 3)) 0 [] [] (.aq (Q.n+2) ⟨0,.inst 420 []⟩ (.aq (Q.n+1) ⟨0,.list (abcd 3)⟩ (.aq Q.n ⟨0,.list (abcd 4)⟩ Q.t)))⟩ U A) []):eX S E C D F G H J K L Q U A n 5 ak i:=dw [.s 6,.c g,.s 1,.c j,.b P,.d e,.c X,.s 2,.h Q.n [(0,[])],.d M,.s 3,.c N,.s 2,.c T,.s 1,.c T,.c Z,.c Z,.d q,.s 1,.c N,.c Y,.b O,.c N,.c Y,.s 2,.h Q.n [(2,[]),(2,[]),(2,[]),(2,[]),(102,[]),(102,[3]),(102,[4]),(102,[5]),(2,[6]),(101,[2,6,2,5,2,4,2,3,2,2,2,2,2,2]),(2,[]),(4,[2,6,2,5,2]),(104,[2,6,2,5,2]),(2,[4]),(5,[4,2,6,2]),(105,[4,2,6,2]),(2,[5,4]),(206,[5,4,2]),(106,[5,4,2]),(101,[6,5,4,2,6,2,5,2,4,2,3,2,2,2,2,2,2]),(2,[6,5,4]),(4,[6,5]),(104,[6,5]),(2,[4,6,5,4]),(5,[4,6]),(105,[4,6]),(2,[5,4,6,5,4]),(206,[5,4]),(106,[5,4]),(101,[6,5,4,6,5,4,2,6,2,5,2,4,2,3,2,2,2,2,2,2]),(2,[6,5,4,6,5,4]),(4,[6,5]),(104,[6,5]),(2,[4,6,5,4,6,5,4]),(5,[4,6]),(105,[4,6]),(2,[5,4,6,5,4,6,5,4]),(206,[5,4]),(106,[5,4]),(201,[6,5,4,6,5,4,6,5,4,2,6,2,5,2,4,2,3,2,2,2,2,2,2]),(102,[7,6,5,4,6,5,4,6,5,4]),(2,[8]),(2,[]),(2,[]),(102,[]),(102,[9]),(102,[10]),(2,[11]),(2,[]),(2,[])],.c Y,.b O,.h Q.n [(1,[2,2,2,11,2,10,2,9,2,2,2,2,8,2,7,6,5,4,6,5,4,6,5,4,2,6,2,5,2,4,2,3,2,2,2,2,2,2])],.s 2,.k [.t] N,.k [.t] V,.b R] p
theorem ET (M:some (I ((i%4)))=some (I 3)) (R:(eZ (aY nl (.ai [I 0,.str aK,I 3])))=some false) (o:Sm nl.length) (p:S (.v (I ty.length)) (cl E C ⟨D.n,.aq (10) ⟨w5+1,.dict .n (aM nl (.ai [I 0,.str aK,I 3]) (I ty.length))⟩ (ov 13 v1 (ty++[.aj 9 (Q.n+2)]) D.t)⟩ F G H J K L ⟨Q.n+12,pz 9 (c5 420) (Q.n+2) (Bm ty.length aK (abcd 3)) 0 [] [] (.aq (Q.n+2) ⟨0,.inst 420 []⟩ (.aq (Q.n+1) ⟨0,.list (abcd 3)⟩ (.aq Q.n ⟨0,.list (abcd 4)⟩ Q.t)))⟩ U A) []):eX S E C D F G H J K L Q U A n 5 ak i:=dw [.s 6,.c g,.s 1,.c j,.b P,.d e,.c X,.s 2,.h Q.n [(0,[])],.d M,.s 3,.c N,.s 2,.c T,.s 1,.c T,.c Z,.c Z,.d q,.s 1,.c N,.c Y,.b O,.c N,.c Y,.s 2,.h Q.n [(2,[]),(2,[]),(2,[]),(2,[]),(102,[]),(102,[3]),(102,[4]),(102,[5]),(2,[6]),(101,[2,6,2,5,2,4,2,3,2,2,2,2,2,2]),(2,[]),(4,[2,6,2,5,2]),(104,[2,6,2,5,2]),(2,[4]),(5,[4,2,6,2]),(105,[4,2,6,2]),(2,[5,4]),(206,[5,4,2]),(106,[5,4,2]),(101,[6,5,4,2,6,2,5,2,4,2,3,2,2,2,2,2,2]),(2,[6,5,4]),(4,[6,5]),(104,[6,5]),(2,[4,6,5,4]),(5,[4,6]),(105,[4,6]),(2,[5,4,6,5,4]),(206,[5,4]),(106,[5,4]),(101,[6,5,4,6,5,4,2,6,2,5,2,4,2,3,2,2,2,2,2,2]),(2,[6,5,4,6,5,4]),(4,[6,5]),(104,[6,5]),(2,[4,6,5,4,6,5,4]),(5,[4,6]),(105,[4,6]),(2,[5,4,6,5,4,6,5,4]),(206,[5,4]),(106,[5,4]),(201,[6,5,4,6,5,4,6,5,4,2,6,2,5,2,4,2,3,2,2,2,2,2,2]),(102,[7,6,5,4,6,5,4,6,5,4]),(2,[8]),(2,[]),(2,[]),(102,[]),(102,[9]),(102,[10]),(2,[11]),(2,[]),(2,[])],.c Y,.b O,.h Q.n [(1,[2,2,2,11,2,10,2,9,2,2,2,2,8,2,7,6,5,4,6,5,4,6,5,4,2,6,2,5,2,4,2,3,2,2,2,2,2,2])],.s 2,.k [.t] N,.k [.t] V,.b R,.k [.t] N,.k [.t] V,.b o] p
end
end
end
end
section
section
variable {n:Nat} {E C D F G H J K L Q U A:Rg} {ak i:Nat} {v0 x u g v4:Nat} {V l fl:zL} {aK:Str} {so fg cc fin:Int} {d w:DV} {q:Int} {B own:Nat} {nl:zD} {O:zP}
section
variable (M:Ge C 8 (xM v0)) (R:Gl C 1 x V) (e:Sm ak) (a:aL V ak=some (.aj 1 B))
include M R e a
section
variable (S:Ge C B (n9 u 1 B ak aK so fg w cc fin))
include S
section
variable (N:Sm (i%2)) (P:aL [I 7,I 13] (i%2)=some (d)) (T:Gl C (B+1) g l)
include N P T
theorem Ro (X:(iX l d)=some false) (Z:Sm l.length) (p:O (.v (I 0)) (cl E ⟨C.n,ov (B+1) g (l++[d]) C.t⟩ D F G H J K L Q U A) []):gj O E C D F G H J K L Q U A n 0 ak i:=dw [.c M,.s 1,.c R,.b e,.d a,.s 1,.c S,.s 2,.b N,.d P,.c T,.b X,.c T,.c T,.b Z,.s 11] p
theorem Rp (X:(iX l d)=some true) (p:O (.v (I 0)) (cl E C D F G H J K L Q U A) []):gj O E C D F G H J K L Q U A n 0 ak i:=dw [.c M,.s 1,.c R,.b e,.d a,.s 1,.c S,.s 2,.b N,.d P,.c T,.b X,.s 11] p
end
theorem WV (N:Gl C (B+9) g l) (P:So (Nat.blt 0 l.length)) (p:O (.v (I 0)) (cl E ⟨C.n,ov (B+9) g (l.set 0 (.ai [I (i%8),.ai [I 7]])) C.t⟩ D F G H J K L Q U A) []):gj O E C D F G H J K L Q U A n 1 ak i:=dw [.c M,.s 1,.c R,.b e,.d a,.s 4,.c S,.s 1,.c N,.s 1,.b P,.s 10] p
theorem WW (N:Gl C (B+8) g l) (P:So (Nat.blt 0 l.length)) (p:O (.v (I 0)) (cl E ⟨C.n,ov (B+8) g (l.set 0 (I (i%3))) C.t⟩ D F G H J K L Q U A) []):gj O E C D F G H J K L Q U A n 2 ak i:=dw [.c M,.s 1,.c R,.b e,.d a,.s 3,.c S,.s 1,.c N,.s 1,.b P,.s 9] p
theorem Rq (N:Gl C (B+5) g l) (P:(iX l (.ai [.str ⟨⟨[80]⟩⟩,I 7,I ((i%2)),I 0,.ai []]))=some false) (T:Sm l.length) (p:O (.v (I 0)) (cl E ⟨C.n,ov (B+5) g (l++[.ai [.str ⟨⟨[80]⟩⟩,I 7,I (i%2),I 0,.ai []]]) C.t⟩ D F G H J K L Q U A) []):gj O E C D F G H J K L Q U A n 7 ak i:=dw [.c M,.s 1,.c R,.b e,.d a,.s 8,.c S,.s 3,.c N,.b P,.c N,.c N,.b T,.s 4] p
theorem Rr (N:Gl C (B+5) g l) (P:(iX l (.ai [.str ⟨⟨[80]⟩⟩,I 7,I ((i%2)),I 0,.ai []]))=some true) (p:O (.v (I 0)) (cl E C D F G H J K L Q U A) []):gj O E C D F G H J K L Q U A n 7 ak i:=dw [.c M,.s 1,.c R,.b e,.d a,.s 8,.c S,.s 3,.c N,.b P,.s 4] p
theorem Rt (N:Gl C (B+6) g l) (P:(iX l (.ai [.str ⟨⟨[69]⟩⟩,I 13,I ((i%2)),I 0]))=some false) (T:Sm l.length) (p:O (.v (I 0)) (cl E ⟨C.n,ov (B+6) g (l++[.ai [.str ⟨⟨[69]⟩⟩,I 13,I (i%2),I 0]]) C.t⟩ D F G H J K L Q U A) []):gj O E C D F G H J K L Q U A n 8 ak i:=dw [.c M,.s 1,.c R,.b e,.d a,.s 9,.c S,.s 2,.c N,.b P,.c N,.c N,.b T,.s 3] p
theorem Ru (N:Gl C (B+6) g l) (P:(iX l (.ai [.str ⟨⟨[69]⟩⟩,I 13,I ((i%2)),I 0]))=some true) (p:O (.v (I 0)) (cl E C D F G H J K L Q U A) []):gj O E C D F G H J K L Q U A n 8 ak i:=dw [.c M,.s 1,.c R,.b e,.d a,.s 9,.c S,.s 2,.c N,.b P,.s 3] p
theorem Rv (N:Gl C (B+4) g l) (P:(iX l (.ai [I ((i%2)),I 12,I 1]))=some false) (T:Sm l.length) (p:O (.v (I 0)) (cl E ⟨C.n,ov (B+4) g (l++[.ai [I (i%2),I 12,I 1]]) C.t⟩ D F G H J K L Q U A) []):gj O E C D F G H J K L Q U A n 9 ak i:=dw [.c M,.s 1,.c R,.b e,.d a,.s 10,.c S,.s 2,.c N,.b P,.c N,.c N,.b T,.s 2] p
theorem Rw (N:Gl C (B+4) g l) (P:(iX l (.ai [I ((i%2)),I 12,I 1]))=some true) (p:O (.v (I 0)) (cl E C D F G H J K L Q U A) []):gj O E C D F G H J K L Q U A n 9 ak i:=dw [.c M,.s 1,.c R,.b e,.d a,.s 10,.c S,.s 2,.c N,.b P,.s 2] p
end
theorem WX (S:Gl C 5 v4 fl) (N:Sm fl.length) (P:B≠5) (T:Ge C B (n9 u 1 B ak aK so fg w cc fin)) (X:B+2≠5) (Z:Gl C (B+2) g l) (Y:Sm ((fl++[I ak]).length)) (m:Sm l.length) (j:Sm ((l++[DV.int (eF (Int.ofNat (fl++[I ak]).length) (Int.ofNat 1))]).length)) (r:So (Nat.blt 0 (l++[DV.int (eF (Int.ofNat (fl++[DV.int (Int.ofNat ak)]).length) (Int.ofNat 1))]).length)) (o:aL (l++[DV.int (eF (Int.ofNat (fl++[I ak]).length) (Int.ofNat 1))]) ((l++[DV.int (eF (Int.ofNat (fl++[I ak]).length) (Int.ofNat 1))]).length -1)=some (.int q)) (p:O (.v (.int q)) (cl E ⟨C.n,ov (B+2) g (l++[.int (eF (.ofNat (fl++[I ak]).length) (.ofNat 1))]) (ov 5 v4 (fl++[I ak]) C.t)⟩ D F G H J K L Q U A) []):gj O E C D F G H J K L Q U A n 3 ak i:=dw [.c M,.s 1,.c R,.b e,.d a,.s 7,.c M,.s 1,.c S,.c S,.b N,.k [.f P] T,.s 1,.k [.f X] Z,.k [.t] M,.s 2,.b Y,.k [.f X] Z,.b m,.s 1,.k [.n (B) 0 2,.f P] T,.s 1,.h B [(102,[])],.b j,.b r,.d o] p
theorem WY (S:Gl C 7 v4 fl) (N:Sm fl.length) (P:B≠7) (T:Ge C B (n9 u 1 B ak aK so fg w cc fin)) (X:B+3≠7) (Z:Gl C (B+3) g l) (Y:Sm ((fl++[I ak]).length)) (m:Sm l.length) (j:Sm ((l++[DV.int (eF (Int.ofNat (fl++[I ak]).length) (Int.ofNat 1))]).length)) (r:So (Nat.blt 0 (l++[DV.int (eF (Int.ofNat (fl++[DV.int (Int.ofNat ak)]).length) (Int.ofNat 1))]).length)) (o:aL (l++[DV.int (eF (Int.ofNat (fl++[I ak]).length) (Int.ofNat 1))]) ((l++[DV.int (eF (Int.ofNat (fl++[I ak]).length) (Int.ofNat 1))]).length -1)=some (.int q)) (p:O (.v (.int q)) (cl E ⟨C.n,.aq (B) ⟨u+1,.dict .s (xV 1 B ak aK so fg w (q) (fin))⟩ (ov (B+3) g (l++[.int (eF (.ofNat (fl++[I ak]).length) (.ofNat 1))]) (ov 7 v4 (fl++[I ak]) C.t))⟩ D F G H J K L Q U A) []):gj O E C D F G H J K L Q U A n 4 ak i:=dw [.c M,.s 1,.c R,.b e,.d a,.s 8,.c M,.s 1,.c S,.c S,.b N,.k [.f P] T,.s 1,.k [.f X] Z,.k [.t] M,.s 2,.b Y,.k [.f X] Z,.b m,.s 1,.k [.n (B) 0 3,.f P] T,.s 1,.h B [(103,[])],.b j,.b r,.d o,.k [.n (B) 0 3,.f P] T,.s 1,.h B [(100,[]),(103,[0])],.b j,.b r,.d o] p
theorem WZ (S:Gl C 3 g l) (N:Sm l.length) (P:Sm ((l++[DV.str ⟨⟨[109,111,114,101]⟩⟩]).length)) (p:O (.v (.int (eF (.ofNat (l++[DV.str ⟨⟨[109,111,114,101]⟩⟩]).length) (.ofNat 1)))) (cl E ⟨C.n,ov 3 g (l++[DV.str ⟨⟨[109,111,114,101]⟩⟩]) C.t⟩ D F G H J K L Q U A) []):gj O E C D F G H J K L Q U A n 6 ak i:=dw [.c M,.s 1,.c R,.b e,.d a,.s 7,.c M,.s 1,.c S,.c S,.b N,.k [.t] M,.s 2,.b P] p
theorem K6 (S:So ((i%65).beq 0)) (p:O (.v (.int (.negSucc 0))) (cl E C D F G H J K L Q U A) []):gj O E C D F G H J K L Q U A n 10 ak i:=dw [.c M,.s 1,.c R,.b e,.d a,.s 11,.b S] p
section
variable (S:Sn ((i%65).beq 0))
include S
theorem KW (N:So (!(i%65).blt 64)) (p:O (.v (.int (.negSucc 0))) (cl E C D F G H J K L Q U A) []):gj O E C D F G H J K L Q U A n 10 ak i:=dw [.c M,.s 1,.c R,.b e,.d a,.s 11,.b S,.s 1,.b N] p
section
variable (N:Sn (!(i%65).blt 64)) (P:Gl C 5 v4 fl) (T:Sm (i%65)) (X:aL fl (i%65)=some (I own))
include N P T X
theorem K5 (Z:So (!(Nat.beq 0 own||(ak.beq own||false)))) (p:O (.v (.int (.negSucc 0))) (cl E C D F G H J K L Q U A) []):gj O E C D F G H J K L Q U A n 10 ak i:=dw [.c M,.s 1,.c R,.b e,.d a,.s 11,.b S,.s 1,.b N,.c M,.s 1,.c P,.b T,.d X,.s 1,.b Z] p
section
variable (Z:Sn (!(Nat.beq 0 own||(ak.beq own||false))))
include Z
theorem K0 (Y:So (own.beq 0)) (m:Ge C B (n9 u 1 B ak aK so fg w cc fin)) (j:Gl C (B+2) g l) (r:Sm l.length) (o:8≠B+2) (z:5≠B+2) (y:So ((i%65).blt fl.length)) (p:O (.v (I (i%65))) (cl E ⟨C.n,ov 5 v4 (fl.set (i%65) (I ak)) (ov (B+2) g (l++[I (i%65)]) C.t)⟩ D F G H J K L Q U A) []):gj O E C D F G H J K L Q U A n 10 ak i:=dw [.c M,.s 1,.c R,.b e,.d a,.s 11,.b S,.s 1,.b N,.c M,.s 1,.c P,.b T,.d X,.s 1,.b Z,.c M,.s 1,.c P,.b T,.d X,.b Y,.c M,.s 1,.c R,.b e,.d a,.c m,.s 1,.c j,.c j,.b r,.k [.f o] M,.s 1,.k [.f z] P,.b T,.b y] p
theorem K4 (Y:Sn (own.beq 0)) (m:So ((i%65).blt fl.length)) (p:O (.v (I (i%65))) (cl E ⟨C.n,ov 5 v4 (fl.set (i%65) (I ak)) C.t⟩ D F G H J K L Q U A) []):gj O E C D F G H J K L Q U A n 10 ak i:=dw [.c M,.s 1,.c R,.b e,.d a,.s 11,.b S,.s 1,.b N,.c M,.s 1,.c P,.b T,.d X,.s 1,.b Z,.c M,.s 1,.c P,.b T,.d X,.b Y,.c M,.s 1,.c P,.b T,.b m] p
end
end
end
section
variable (S:Sn ((254+i%3).beq 0))
include S
theorem K7 (N:So (!(254+i%3).blt 256)) (p:O (.v (.int (.negSucc 0))) (cl E C D F G H J K L Q U A) []):gj O E C D F G H J K L Q U A n 11 ak i:=dw [.c M,.s 1,.c R,.b e,.d a,.s 12,.b S,.s 1,.b N,.s 1] p
section
variable (N:Sn (!(254+i%3).blt 256)) (P:Gl C 7 v4 fl) (T:Sm (254+i%3)) (X:aL fl (254+i%3)=some (I own))
include N P T X
theorem K_ (Z:So (!(Nat.beq 0 own||(ak.beq own||false)))) (p:O (.v (.int (.negSucc 0))) (cl E C D F G H J K L Q U A) []):gj O E C D F G H J K L Q U A n 11 ak i:=dw [.c M,.s 1,.c R,.b e,.d a,.s 12,.b S,.s 1,.b N,.c M,.s 1,.c P,.b T,.d X,.s 1,.b Z,.s 1] p
section
variable (Z:Sn (!(Nat.beq 0 own||(ak.beq own||false))))
include Z
theorem K8 (Y:So (own.beq 0)) (m:Ge C B (n9 u 1 B ak aK so fg w cc fin)) (j:Gl C (B+3) g l) (r:Sm l.length) (o:8≠B+3) (z:7≠B+3) (y:So ((254+i%3).blt fl.length)) (gM:So (Nat.blt 0 (254+i%3))) (xx:B≠7) (p:O (.v (I (254+i%3))) (cl E ⟨C.n,.aq (B) ⟨u+1,.dict .s (xV 1 B ak aK so fg w (cc) (.ofNat (254+i%3)))⟩ (ov 7 v4 (fl.set (254+i%3) (I ak)) (ov (B+3) g (l++[I (254+i%3)]) C.t))⟩ D F G H J K L Q U A) []):gj O E C D F G H J K L Q U A n 11 ak i:=dw [.c M,.s 1,.c R,.b e,.d a,.s 12,.b S,.s 1,.b N,.c M,.s 1,.c P,.b T,.d X,.s 1,.b Z,.c M,.s 1,.c P,.b T,.d X,.b Y,.c M,.s 1,.c R,.b e,.d a,.c m,.s 1,.c j,.c j,.b r,.k [.f o] M,.s 1,.k [.f z] P,.b T,.b y,.b gM,.k [.f xx,.n (B) 0 3] m,.s 1] p
theorem K9 (Y:Sn (own.beq 0)) (m:So ((254+i%3).blt fl.length)) (j:So (Nat.blt 0 (254+i%3))) (r:B≠7) (o:Ge C B (n9 u 1 B ak aK so fg w cc fin)) (p:O (.v (I (254+i%3))) (cl E ⟨C.n,.aq (B) ⟨u+1,.dict .s (xV 1 B ak aK so fg w (cc) (.ofNat (254+i%3)))⟩ (ov 7 v4 (fl.set (254+i%3) (I ak)) C.t)⟩ D F G H J K L Q U A) []):gj O E C D F G H J K L Q U A n 11 ak i:=dw [.c M,.s 1,.c R,.b e,.d a,.s 12,.b S,.s 1,.b N,.c M,.s 1,.c P,.b T,.d X,.s 1,.b Z,.c M,.s 1,.c P,.b T,.d X,.b Y,.c M,.s 1,.c P,.b T,.b m,.b j,.k [.f r] o,.s 1] p
end
end
end
section
variable (S:Sm V.length) (N:Ge C B (n9 u 1 B ak aK so fg w cc fin)) (P:B≠1) (T:Ge C 2 ⟨g,.dict .n nl⟩)
include S N P T
theorem Hg (X:some (I ((i%4)))=some (I 0)) (Z:(eZ (aY nl (.ai [I 0,.str aK,I 0])))=some true) (p:O (.v (I V.length)) (cl E ⟨C.n,ov 1 x (V++[.aj 10 (U.n+2)]) C.t⟩ D F G H J K L Q ⟨U.n+12,pz 10 mY (U.n+2) (AO (abcd 0)) 0 (o9 V.length aK) [] (.aq (U.n+2) ⟨0,.dict .s (o9 V.length aK)⟩ (.aq (U.n+1) ⟨0,.list (abcd 0)⟩ (.aq U.n ⟨0,.list (abcd 4)⟩ U.t)))⟩ A) []):gj O E C D F G H J K L Q U A n 5 ak i:=dw [.c M,.s 1,.c R,.b e,.d a,.s 7,.h U.n [(0,[])],.d X,.s 1,.c M,.s 1,.c R,.b S,.c M,.s 1,.c R,.c N,.s 3,.h U.n [(102,[]),(402,[]),(202,[3]),(202,[4]),(202,[5]),(202,[6]),(202,[7]),(202,[8]),(202,[9]),(202,[10]),(102,[11]),(101,[2,11,2,10,2,9,2,8,2,7,2,6,2,5,2,4,2,3,2,2,2])],.c R,.b S,.k [.f P] N,.s 1,.h U.n [(1,[2,11,2,10,2,9,2,8,2,7,2,6,2,5,2,4,2,3,2,2,2])],.s 2,.k [.t] M,.s 1,.k [.t] T,.b Z] p
theorem Hf (X:some (I ((i%4)))=some (I 0)) (Z:(eZ (aY nl (.ai [I 0,.str aK,I 0])))=some false) (Y:Sm nl.length) (p:O (.v (I V.length)) (cl E ⟨C.n,.aq (2) ⟨g+1,.dict .n (aM nl (.ai [I 0,.str aK,I 0]) (I V.length))⟩ (ov 1 x (V++[.aj 10 (U.n+2)]) C.t)⟩ D F G H J K L Q ⟨U.n+12,pz 10 mY (U.n+2) (AO (abcd 0)) 0 (o9 V.length aK) [] (.aq (U.n+2) ⟨0,.dict .s (o9 V.length aK)⟩ (.aq (U.n+1) ⟨0,.list (abcd 0)⟩ (.aq U.n ⟨0,.list (abcd 4)⟩ U.t)))⟩ A) []):gj O E C D F G H J K L Q U A n 5 ak i:=dw [.c M,.s 1,.c R,.b e,.d a,.s 7,.h U.n [(0,[])],.d X,.s 1,.c M,.s 1,.c R,.b S,.c M,.s 1,.c R,.c N,.s 3,.h U.n [(102,[]),(402,[]),(202,[3]),(202,[4]),(202,[5]),(202,[6]),(202,[7]),(202,[8]),(202,[9]),(202,[10]),(102,[11]),(101,[2,11,2,10,2,9,2,8,2,7,2,6,2,5,2,4,2,3,2,2,2])],.c R,.b S,.k [.f P] N,.s 1,.h U.n [(1,[2,11,2,10,2,9,2,8,2,7,2,6,2,5,2,4,2,3,2,2,2])],.s 2,.k [.t] M,.s 1,.k [.t] T,.b Z,.k [.t] M,.s 1,.k [.f P] N,.s 1,.h U.n [(1,[2,11,2,10,2,9,2,8,2,7,2,6,2,5,2,4,2,3,2,2,2])],.s 2,.k [.t] T,.b Y] p
theorem Hi (X:some (I ((i%4)))=some (I 1)) (Z:(eZ (aY nl (.ai [I 0,.str aK,I 1])))=some true) (p:O (.v (I V.length)) (cl E ⟨C.n,ov 1 x (V++[.aj 10 (U.n+2)]) C.t⟩ D F G H J K L Q ⟨U.n+13,pz 10 mY (U.n+2) (AO (abcd 1)) 0 (o9 V.length aK) [] (.aq (U.n+2) ⟨0,.dict .s (o9 V.length aK)⟩ (.aq (U.n+1) ⟨0,.list (abcd 1)⟩ (.aq U.n ⟨0,.list (abcd 4)⟩ U.t)))⟩ A) []):gj O E C D F G H J K L Q U A n 5 ak i:=dw [.c M,.s 1,.c R,.b e,.d a,.s 7,.h U.n [(0,[])],.d X,.s 1,.c M,.s 1,.c R,.b S,.c M,.s 1,.c R,.c N,.s 3,.h U.n [(102,[]),(402,[]),(202,[3]),(202,[4]),(202,[5]),(202,[6]),(202,[7]),(202,[8]),(202,[9]),(202,[10]),(102,[11]),(201,[2,11,2,10,2,9,2,8,2,7,2,6,2,5,2,4,2,3,2,2,2]),(102,[]),(109,[2,11,2,10,2]),(109,[2,11,2,10,2]),(102,[9]),(10,[9,2,11,2]),(12,[]),(112,[]),(110,[12,9,2,11,2]),(102,[10,12,9]),(311,[10,12,9,2]),(111,[10,12,9,2]),(101,[11,10,12,9,2,11,2,10,2,9,2,8,2,7,2,6,2,5,2,4,2,3,2,2,2])],.c R,.b S,.k [.f P] N,.s 1,.h U.n [(1,[11,10,12,9,2,11,2,10,2,9,2,8,2,7,2,6,2,5,2,4,2,3,2,2,2])],.s 2,.k [.t] M,.s 1,.k [.t] T,.b Z] p
theorem Hh (X:some (I ((i%4)))=some (I 1)) (Z:(eZ (aY nl (.ai [I 0,.str aK,I 1])))=some false) (Y:Sm nl.length) (p:O (.v (I V.length)) (cl E ⟨C.n,.aq (2) ⟨g+1,.dict .n (aM nl (.ai [I 0,.str aK,I 1]) (I V.length))⟩ (ov 1 x (V++[.aj 10 (U.n+2)]) C.t)⟩ D F G H J K L Q ⟨U.n+13,pz 10 mY (U.n+2) (AO (abcd 1)) 0 (o9 V.length aK) [] (.aq (U.n+2) ⟨0,.dict .s (o9 V.length aK)⟩ (.aq (U.n+1) ⟨0,.list (abcd 1)⟩ (.aq U.n ⟨0,.list (abcd 4)⟩ U.t)))⟩ A) []):gj O E C D F G H J K L Q U A n 5 ak i:=dw [.c M,.s 1,.c R,.b e,.d a,.s 7,.h U.n [(0,[])],.d X,.s 1,.c M,.s 1,.c R,.b S,.c M,.s 1,.c R,.c N,.s 3,.h U.n [(102,[]),(402,[]),(202,[3]),(202,[4]),(202,[5]),(202,[6]),(202,[7]),(202,[8]),(202,[9]),(202,[10]),(102,[11]),(201,[2,11,2,10,2,9,2,8,2,7,2,6,2,5,2,4,2,3,2,2,2]),(102,[]),(109,[2,11,2,10,2]),(109,[2,11,2,10,2]),(102,[9]),(10,[9,2,11,2]),(12,[]),(112,[]),(110,[12,9,2,11,2]),(102,[10,12,9]),(311,[10,12,9,2]),(111,[10,12,9,2]),(101,[11,10,12,9,2,11,2,10,2,9,2,8,2,7,2,6,2,5,2,4,2,3,2,2,2])],.c R,.b S,.k [.f P] N,.s 1,.h U.n [(1,[11,10,12,9,2,11,2,10,2,9,2,8,2,7,2,6,2,5,2,4,2,3,2,2,2])],.s 2,.k [.t] M,.s 1,.k [.t] T,.b Z,.k [.t] M,.s 1,.k [.f P] N,.s 1,.h U.n [(1,[11,10,12,9,2,11,2,10,2,9,2,8,2,7,2,6,2,5,2,4,2,3,2,2,2])],.s 2,.k [.t] T,.b Y] p
theorem Hl (X:some (I ((i%4)))=some (I 2)) (Z:(eZ (aY nl (.ai [I 0,.str aK,I 2])))=some true) (p:O (.v (I V.length)) (cl E ⟨C.n,ov 1 x (V++[.aj 10 (U.n+2)]) C.t⟩ D F G H J K L Q ⟨U.n+14,pz 10 mY (U.n+2) (AO (abcd 2)) 0 (o9 V.length aK) [] (.aq (U.n+2) ⟨0,.dict .s (o9 V.length aK)⟩ (.aq (U.n+1) ⟨0,.list (abcd 2)⟩ (.aq U.n ⟨0,.list (abcd 4)⟩ U.t)))⟩ A) []):gj O E C D F G H J K L Q U A n 5 ak i:=dw [.c M,.s 1,.c R,.b e,.d a,.s 7,.h U.n [(0,[])],.d X,.s 1,.c M,.s 1,.c R,.b S,.c M,.s 1,.c R,.c N,.s 3,.h U.n [(102,[]),(402,[]),(202,[3]),(202,[4]),(202,[5]),(202,[6]),(202,[7]),(202,[8]),(202,[9]),(202,[10]),(102,[11]),(201,[2,11,2,10,2,9,2,8,2,7,2,6,2,5,2,4,2,3,2,2,2]),(102,[]),(109,[2,11,2,10,2]),(109,[2,11,2,10,2]),(102,[9]),(10,[9,2,11,2]),(12,[]),(112,[]),(110,[12,9,2,11,2]),(102,[10,12,9]),(311,[10,12,9,2]),(111,[10,12,9,2]),(201,[11,10,12,9,2,11,2,10,2,9,2,8,2,7,2,6,2,5,2,4,2,3,2,2,2]),(102,[11,10,12,9]),(109,[11,10,12]),(109,[11,10,12]),(102,[9,11,10,12,9]),(10,[9,11]),(13,[]),(113,[]),(110,[13,9,11]),(102,[10,13,9,11,10,12,9]),(311,[10,13,9]),(111,[10,13,9]),(101,[11,10,13,9,11,10,12,9,2,11,2,10,2,9,2,8,2,7,2,6,2,5,2,4,2,3,2,2,2])],.c R,.b S,.k [.f P] N,.s 1,.h U.n [(1,[11,10,13,9,11,10,12,9,2,11,2,10,2,9,2,8,2,7,2,6,2,5,2,4,2,3,2,2,2])],.s 2,.k [.t] M,.s 1,.k [.t] T,.b Z] p
theorem Hj (X:some (I ((i%4)))=some (I 2)) (Z:(eZ (aY nl (.ai [I 0,.str aK,I 2])))=some false) (Y:Sm nl.length) (p:O (.v (I V.length)) (cl E ⟨C.n,.aq (2) ⟨g+1,.dict .n (aM nl (.ai [I 0,.str aK,I 2]) (I V.length))⟩ (ov 1 x (V++[.aj 10 (U.n+2)]) C.t)⟩ D F G H J K L Q ⟨U.n+14,pz 10 mY (U.n+2) (AO (abcd 2)) 0 (o9 V.length aK) [] (.aq (U.n+2) ⟨0,.dict .s (o9 V.length aK)⟩ (.aq (U.n+1) ⟨0,.list (abcd 2)⟩ (.aq U.n ⟨0,.list (abcd 4)⟩ U.t)))⟩ A) []):gj O E C D F G H J K L Q U A n 5 ak i:=dw [.c M,.s 1,.c R,.b e,.d a,.s 7,.h U.n [(0,[])],.d X,.s 1,.c M,.s 1,.c R,.b S,.c M,.s 1,.c R,.c N,.s 3,.h U.n [(102,[]),(402,[]),(202,[3]),(202,[4]),(202,[5]),(202,[6]),(202,[7]),(202,[8]),(202,[9]),(202,[10]),(102,[11]),(201,[2,11,2,10,2,9,2,8,2,7,2,6,2,5,2,4,2,3,2,2,2]),(102,[]),(109,[2,11,2,10,2]),(109,[2,11,2,10,2]),(102,[9]),(10,[9,2,11,2]),(12,[]),(112,[]),(110,[12,9,2,11,2]),(102,[10,12,9]),(311,[10,12,9,2]),(111,[10,12,9,2]),(201,[11,10,12,9,2,11,2,10,2,9,2,8,2,7,2,6,2,5,2,4,2,3,2,2,2]),(102,[11,10,12,9]),(109,[11,10,12]),(109,[11,10,12]),(102,[9,11,10,12,9]),(10,[9,11]),(13,[]),(113,[]),(110,[13,9,11]),(102,[10,13,9,11,10,12,9]),(311,[10,13,9]),(111,[10,13,9]),(101,[11,10,13,9,11,10,12,9,2,11,2,10,2,9,2,8,2,7,2,6,2,5,2,4,2,3,2,2,2])],.c R,.b S,.k [.f P] N,.s 1,.h U.n [(1,[11,10,13,9,11,10,12,9,2,11,2,10,2,9,2,8,2,7,2,6,2,5,2,4,2,3,2,2,2])],.s 2,.k [.t] M,.s 1,.k [.t] T,.b Z,.k [.t] M,.s 1,.k [.f P] N,.s 1,.h U.n [(1,[11,10,13,9,11,10,12,9,2,11,2,10,2,9,2,8,2,7,2,6,2,5,2,4,2,3,2,2,2])],.s 2,.k [.t] T,.b Y] p
theorem Hp (X:some (I ((i%4)))=some (I 3)) (Z:(eZ (aY nl (.ai [I 0,.str aK,I 3])))=some true) (p:O (.v (I V.length)) (cl E ⟨C.n,ov 1 x (V++[.aj 10 (U.n+2)]) C.t⟩ D F G H J K L Q ⟨U.n+15,pz 10 mY (U.n+2) (AO (abcd 3)) 0 (o9 V.length aK) [] (.aq (U.n+2) ⟨0,.dict .s (o9 V.length aK)⟩ (.aq (U.n+1) ⟨0,.list (abcd 3)⟩ (.aq U.n ⟨0,.list (abcd 4)⟩ U.t)))⟩ A) []):gj O E C D F G H J K L Q U A n 5 ak i:=dw [.c M,.s 1,.c R,.b e,.d a,.s 7,.h U.n [(0,[])],.d X,.s 1,.c M,.s 1,.c R,.b S,.c M,.s 1,.c R,.c N,.s 3,.h U.n [(102,[]),(402,[]),(202,[3]),(202,[4]),(202,[5]),(202,[6]),(202,[7]),(202,[8]),(202,[9]),(202,[10]),(102,[11]),(201,[2,11,2,10,2,9,2,8,2,7,2,6,2,5,2,4,2,3,2,2,2]),(102,[]),(109,[2,11,2,10,2]),(109,[2,11,2,10,2]),(102,[9]),(10,[9,2,11,2]),(12,[]),(112,[]),(110,[12,9,2,11,2]),(102,[10,12,9]),(311,[10,12,9,2]),(111,[10,12,9,2]),(201,[11,10,12,9,2,11,2,10,2,9,2,8,2,7,2,6,2,5,2,4,2,3,2,2,2]),(102,[11,10,12,9]),(109,[11,10,12]),(109,[11,10,12]),(102,[9,11,10,12,9]),(10,[9,11]),(13,[]),(113,[]),(110,[13,9,11]),(102,[10,13,9,11,10,12,9]),(311,[10,13,9]),(111,[10,13,9]),(201,[11,10,13,9,11,10,12,9,2,11,2,10,2,9,2,8,2,7,2,6,2,5,2,4,2,3,2,2,2]),(102,[11,10,13,9,11,10,12,9]),(109,[11,10,13]),(109,[11,10,13]),(102,[9,11,10,13,9,11,10,12,9]),(10,[9,11]),(14,[]),(114,[]),(110,[14,9,11]),(102,[10,14,9,11,10,13,9,11,10,12,9]),(311,[10,14,9]),(111,[10,14,9]),(101,[11,10,14,9,11,10,13,9,11,10,12,9,2,11,2,10,2,9,2,8,2,7,2,6,2,5,2,4,2,3,2,2,2])],.c R,.b S,.k [.f P] N,.s 1,.h U.n [(1,[11,10,14,9,11,10,13,9,11,10,12,9,2,11,2,10,2,9,2,8,2,7,2,6,2,5,2,4,2,3,2,2,2])],.s 2,.k [.t] M,.s 1,.k [.t] T,.b Z] p
theorem Ho (X:some (I ((i%4)))=some (I 3)) (Z:(eZ (aY nl (.ai [I 0,.str aK,I 3])))=some false) (Y:Sm nl.length) (p:O (.v (I V.length)) (cl E ⟨C.n,.aq (2) ⟨g+1,.dict .n (aM nl (.ai [I 0,.str aK,I 3]) (I V.length))⟩ (ov 1 x (V++[.aj 10 (U.n+2)]) C.t)⟩ D F G H J K L Q ⟨U.n+15,pz 10 mY (U.n+2) (AO (abcd 3)) 0 (o9 V.length aK) [] (.aq (U.n+2) ⟨0,.dict .s (o9 V.length aK)⟩ (.aq (U.n+1) ⟨0,.list (abcd 3)⟩ (.aq U.n ⟨0,.list (abcd 4)⟩ U.t)))⟩ A) []):gj O E C D F G H J K L Q U A n 5 ak i:=dw [.c M,.s 1,.c R,.b e,.d a,.s 7,.h U.n [(0,[])],.d X,.s 1,.c M,.s 1,.c R,.b S,.c M,.s 1,.c R,.c N,.s 3,.h U.n [(102,[]),(402,[]),(202,[3]),(202,[4]),(202,[5]),(202,[6]),(202,[7]),(202,[8]),(202,[9]),(202,[10]),(102,[11]),(201,[2,11,2,10,2,9,2,8,2,7,2,6,2,5,2,4,2,3,2,2,2]),(102,[]),(109,[2,11,2,10,2]),(109,[2,11,2,10,2]),(102,[9]),(10,[9,2,11,2]),(12,[]),(112,[]),(110,[12,9,2,11,2]),(102,[10,12,9]),(311,[10,12,9,2]),(111,[10,12,9,2]),(201,[11,10,12,9,2,11,2,10,2,9,2,8,2,7,2,6,2,5,2,4,2,3,2,2,2]),(102,[11,10,12,9]),(109,[11,10,12]),(109,[11,10,12]),(102,[9,11,10,12,9]),(10,[9,11]),(13,[]),(113,[]),(110,[13,9,11]),(102,[10,13,9,11,10,12,9]),(311,[10,13,9]),(111,[10,13,9]),(201,[11,10,13,9,11,10,12,9,2,11,2,10,2,9,2,8,2,7,2,6,2,5,2,4,2,3,2,2,2]),(102,[11,10,13,9,11,10,12,9]),(109,[11,10,13]),(109,[11,10,13]),(102,[9,11,10,13,9,11,10,12,9]),(10,[9,11]),(14,[]),(114,[]),(110,[14,9,11]),(102,[10,14,9,11,10,13,9,11,10,12,9]),(311,[10,14,9]),(111,[10,14,9]),(101,[11,10,14,9,11,10,13,9,11,10,12,9,2,11,2,10,2,9,2,8,2,7,2,6,2,5,2,4,2,3,2,2,2])],.c R,.b S,.k [.f P] N,.s 1,.h U.n [(1,[11,10,14,9,11,10,13,9,11,10,12,9,2,11,2,10,2,9,2,8,2,7,2,6,2,5,2,4,2,3,2,2,2])],.s 2,.k [.t] M,.s 1,.k [.t] T,.b Z,.k [.t] M,.s 1,.k [.f P] N,.s 1,.h U.n [(1,[11,10,14,9,11,10,13,9,11,10,12,9,2,11,2,10,2,9,2,8,2,7,2,6,2,5,2,4,2,3,2,2,2])],.s 2,.k [.t] T,.b Y] p
end
end
end
end
section
structure Ab where
 l:Nat→Nat→List DV
 cc:Nat→Int
 fin:Nat→Int
 fs:List Nat
 ms:List Nat
 ns:List (DV×DV)
 as:List DV
 ts:List (Str×Nat)
noncomputable def Lk:List DV:=match rF with
 | .ai l=>l
 |_=>[]
noncomputable def fld (t i:Nat):DV:=match aL Lk (t -1) with
 |some d=>match d with
  | .ai l=>match aL l i with
   |some d=>d
   |none=> .none
  |_=> .none
 |none=> .none
noncomputable def d8 (t:Nat):Str:=match fld t 1 with
 | .str s=>s
 |_=>⟨⟨[]⟩⟩
noncomputable def Nk (t i:Nat):Int:=match fld t i with
 | .int i=>i
 |_=>0
noncomputable def fN (t i:Nat):List DV:=match fld t i with
 | .ai l=>l
 |_=>[]
noncomputable def bF (t:Nat):Nat:=match Nk t 4 with
 | .ofNat n=>n
 |_=>0
noncomputable def gZ (t:Nat):Int:=match aF [(0,Int.negSucc 0),(1,.ofNat 12),(2,.ofNat 16),(7,.ofNat 17),(24,.ofNat 18),(31,.ofNat 19),(38,.ofNat 20),(6,.ofNat 21)] (bF t) with
 |some i=>i
 |none=>0
noncomputable def ia (t:Nat):DV:=match bF t with
 |0=> .ai []
 |b+1=>match b with
  |0=> .ai [I 1,I 12]
  |_=> .ai [I 2,I (bF t),.ai []]
noncomputable abbrev fq (t:Nat):Int:=Nk t 2
noncomputable abbrev m7 (t:Nat):Int:=Nk t 3
noncomputable def Ab.bz (a:Ab) (t j:Nat) (x:zL):Ab:={a with l:=fun s k=>if s=t∧k=j then x else a.l s k}
noncomputable def upd (f:Nat→Int) (t:Nat) (x:Int):Nat→Int:=fun s=>if s=t then x else f s
noncomputable def once (l:zL) (d:DV):List DV:=match iX l d with
 |some b=>match b with
  |true=>l
  |false=>l++[d]
 |none=>l
noncomputable abbrev oZ:DV:= .str ⟨⟨[109,111,114,101]⟩⟩
noncomputable def lz (ns:zD) (k v:DV):List (DV×DV):=match eZ (aY ns k) with
 |some b=>match b with
  |true=>ns
  |false=>aM ns k v
 |none=>ns
noncomputable def xU (a:Ab) (os:List Nat) (k lim ak j:Nat) (f:Ab→List Nat→Ab):Ab×DV:=match Nat.beq k 0||!Nat.blt k lim with
 |true=>(a,.int (.negSucc 0))
 |false=>match aL os k with
  |none=>(a,.none)
  |some o=>match !(Nat.beq 0 o||(ak.beq o||false)) with
   |true=>(a,.int (.negSucc 0))
   |false=>match o.beq 0 with
    |true=>(f (a.bz ak j (a.l ak j++[I k])) (os.set k ak),I k)
    |false=>(f a (os.set k ak),I k)
noncomputable def eO (a:Ab) (op ak i:Nat):Ab×DV:=match op with
 |0=>match aL [I 7,I 13] (i%2) with
  |some d=>(a.bz ak 1 (once (a.l ak 1) d),I 0)
  |none=>(a,I 0)
 |1=>(a.bz ak 4 ((a.l ak 4).set 0 (.ai [I (i%8),.ai [I 7]])),I 0)
 |2=>(a.bz ak 3 ((a.l ak 3).set 0 (I (i%3))),I 0)
 |3=>({a.bz ak 5 (a.l ak 5++[I a.fs.length]) with fs:=a.fs++[ak]},I a.fs.length)
 |4=>({a.bz ak 6 (a.l ak 6++[I a.ms.length]) with ms:=a.ms++[ak],cc:=upd a.cc ak (.ofNat a.ms.length)},I a.ms.length)
 |5=>({a with ts:=a.ts++[(d8 ak,i%4)],ns:=lz a.ns (.ai [I 0,.str (d8 ak),I (i%4)]) (I (64+a.ts.length))},I (64+a.ts.length))
 |6=>({a with as:=a.as++[oZ]},.int (Av 1 (a.as++[oZ]).length))
 |7=>(a.bz ak 8 (once (a.l ak 8) (.ai [.str ⟨⟨[80]⟩⟩,I 7,I (i%2),I 0,.ai []])),I 0)
 |8=>(a.bz ak 9 (once (a.l ak 9) (.ai [.str ⟨⟨[69]⟩⟩,I 13,I (i%2),I 0])),I 0)
 |9=>(a.bz ak 7 (once (a.l ak 7) (.ai [I (i%2),I 12,I 1])),I 0)
 |10=>xU a a.fs (i%65) 64 ak 5 fun a os=>{a with fs:=os}
 |_=>xU a a.ms (254+i%3) 256 ak 6 fun a os=>{a with ms:=os,fin:=upd a.fin ak (.ofNat (254+i%3))}
abbrev Ix:=Nat×Nat
def bZ (V:Ix→Prop) (ad:Ix→Nat) (ct:Ix→CB) (g:TC):Prop:=∀x,V x→∃v,g.get (ad x)=some ⟨v,ct x⟩
theorem bZ.up {V:Ix→Prop} {ad:Ix→Nat} {ct B:Ix→CB} {g:TC} {x:Ix} {v:Nat} {b:CB} (h:bZ V ad ct g) (inj:∀y,V y→y≠x→ad y≠ad x) (e:∀y,V y→y≠x→B y=ct y) (hb:B x=b):bZ V ad B (.aq (ad x) ⟨v,b⟩ g):=fun y A=>by
 by_cases q:y=x
 ·subst q;exact ⟨v,by rw [TC.ay,bk rfl,hb]⟩
 ·refine aA (h y A) fun u hu=>?_
  exact ⟨u,by rw [TC.ay,aS (inj y A q),e y A q];exact hu⟩
structure Ex where
 rows:List DV
 ki:List (DV×DV)
 ty:List DV
 fl:List DV
 ml:List DV
 dp:List DV
 wt:List DV
 op:List DV
def VS (x:Ix):Prop:=match x.1 with
 |0=>x.2∈[0,1,2,3,4,5,6,10,11,13,15,17]
 |t+1=>t<55∧x.2≤9
noncomputable def jg (x:Ix):Nat:=match x.1 with
 |0=>x.2
 |t+1=>8+10*(t+1)+x.2
noncomputable def spS (a:Ab) (e:Ex) (j:Nat):CB:=[(stC 0 2).b,.inst 79 [(6,.aj 2 2),(7,.aj 2 3),(8,.aj 2 4),(9,.aj 2 5),(10,.aj 2 6)],.list e.rows,.dict .r e.ki,.list e.dp,.list e.wt,.list e.op,.list [],.list [],.list [],.dict .n a.ns,.list a.as,.list [],.list e.ty,.list [],.list e.fl,.list [],.list e.ml][j]?.getD (.list [])
theorem dK {l m:List CB} {j:Nat} (h:l.set j (.list [])=m.set j (.list [])):∀k,k≠j→l[k]?.getD (.list [])=m[k]?.getD (.list []):=fun k q=>congrArg (·.getD (.list [])) ((List.getElem?_set_ne q.symm).symm.trans ((congrArg (·[k]?) h).trans (List.getElem?_set_ne q.symm)))
noncomputable def lA (a:Ab) (e:Ex) (x:Ix):CB:=match x.1 with
 |0=>spS a e x.2
 |t+1=>match x.2 with
  |0=> .inst 420 (mw 2 (8+10*(t+1)) (t+1) (d8 (t+1)) (fq (t+1)) (m7 (t+1)) (gZ (t+1)) (a.cc (t+1)) (a.fin (t+1)))
  |j+1=> .list (a.l (t+1) (j+1))
theorem Fq {x y:Ix} (H:VS x) (A:VS y) (h:y≠x):jg y≠jg x:=by
 obtain ⟨t,j⟩:=x;obtain ⟨s,k⟩:=y;have G:∀{j:Nat},j∈[0,1,2,3,4,5,6,10,11,13,15,17]→j≤17:=fun {j} h=>by simp only [List.mem_cons,List.not_mem_nil,or_false] at h;exact V6 h
 cases t with
 |zero=>cases s with
  |zero=>exact fun e=>h (congrArg (Prod.mk 0) e)
  |succ s=>have C:=G H;have F:s<55∧k≤9:=A;show 8+10*(s+1)+k≠j;exact V7 F C
 |succ t=>cases s with
  |zero=>have C:=G A;show k≠8+10*(t+1)+j;exact V8 C
  |succ s=>have C:t<55∧j≤9:=H;have F:s<55∧k≤9:=A;show 8+10*(s+1)+k≠8+10*(t+1)+j;intro e;have:s=t:=V9 e C F;subst this;exact h (by rw [show k=j by exact V_ e])
section
variable {a:Ab} {e:Ex} {g:TC} {t j v:Nat} {x:zL}
theorem d7 (h:bZ VS jg (lA a e) g) (D:t<55) (E:j<9):bZ VS jg (lA (a.bz (t+1) (j+1) x) e) (.aq (8+10*(t+1)+(j+1)) ⟨v,.list x⟩ g):=
 h.up (x:=(t+1,j+1)) (fun y A q=>Fq (show VS (t+1,j+1) from ⟨D,E⟩) A q) (fun y A q=>by
  obtain ⟨s,k⟩:=y;cases s with
  |zero=>rfl
  |succ s=>cases k with
   |zero=>rfl
   |succ k=>show CB.list (if s+1=t+1∧k+1=j+1 then x else a.l (s+1) (k+1))=_;rw [aS fun z=>q (by rw [z.1,z.2])];rfl) (by
  show CB.list (if t+1=t+1∧j+1=j+1 then x else _)=_;rw [bk ⟨rfl,rfl⟩])
theorem vM {cc fin:Int} (h:bZ VS jg (lA a e) g) (D:t<55):bZ VS jg (lA {a with cc:=upd a.cc (t+1) cc,fin:=upd a.fin (t+1) fin} e) (.aq (8+10*(t+1)) ⟨v,.inst 420 (mw 2 (8+10*(t+1)) (t+1) (d8 (t+1)) (fq (t+1)) (m7 (t+1)) (gZ (t+1)) cc fin)⟩ g):=
 h.up (x:=(t+1,0)) (fun y A q=>Fq (show VS (t+1,0) from ⟨D,Nat.zero_le _⟩) A q) (fun y A q=>by
  obtain ⟨s,k⟩:=y;cases s with
  |zero=>rfl
  |succ s=>cases k with
   |zero=>have hs:¬s+1=t+1:=fun z=>q (by rw [z]);show CB.inst 420 (mw 2 (8+10*(s+1)) (s+1) (d8 (s+1)) (fq (s+1)) (m7 (s+1)) (gZ (s+1)) (if s+1=t+1 then cc else a.cc (s+1)) (if s+1=t+1 then fin else a.fin (s+1)))=_;rw [aS hs,aS hs];rfl
   |succ k=>rfl) (by
  show CB.inst 420 (mw 2 (8+10*(t+1)) (t+1) (d8 (t+1)) (fq (t+1)) (m7 (t+1)) (gZ (t+1)) (if t+1=t+1 then cc else a.cc (t+1)) (if t+1=t+1 then fin else a.fin (t+1)))=_;rw [bk rfl,bk rfl])
theorem c9 {a':Ab} {e':Ex} {b:CB} (h:bZ VS jg (lA a e) g) (E:j∈[0,1,2,3,4,5,6,10,11,13,15,17]) (J:a'.l=a.l) (K:a'.cc=a.cc) (hf:a'.fin=a.fin) (hs:∀k,k≠j→spS a' e' k=spS a e k) (hb:spS a' e' j=b):bZ VS jg (lA a' e') (.aq j ⟨v,b⟩ g):=
 h.up (x:=(0,j)) (fun y A q=>Fq (show VS (0,j) from E) A q) (fun y A q=>by
  obtain ⟨s,k⟩:=y;cases s with
  |zero=>exact hs k fun z=>q (by rw [z])
  |succ s=>cases k with
   |zero=>show CB.inst 420 (mw 2 (8+10*(s+1)) (s+1) (d8 (s+1)) (fq (s+1)) (m7 (s+1)) (gZ (s+1)) (a'.cc (s+1)) (a'.fin (s+1)))=_;rw [K,hf];rfl
   |succ k=>show CB.list (a'.l (s+1) (k+1))=_;rw [J];rfl) hb
end
end
section
variable {x d:DV} {h E:Rg} {C k o:Nat} {ds:zL} {os:List Nat} {l:zD}
noncomputable def wj:Nat→DV→Bool
 |0,_=>false
 |f+1,d=>match d with
  | .none=>true
  | .int _=>true
  | .str _=>true
  | .ai l=>l.all (wj f)
  |_=>false
abbrev Pl (d:DV):Prop:=wj 4 d=true
theorem oE {q:DV→DV→Option Bool}:∀{l k:zL},(∀a∈l,∀b∈k,∃x,q a b=some x)→∃x,gk q l k=some x
 |[],[],_=>⟨_,rfl⟩
 |[],_::_,_=>⟨_,rfl⟩
 |_::_,[],_=>⟨_,rfl⟩
 |a::l,b::k,h=>by
  refine aA (h a (.head _) b (.head _)) fun x D=>aA (oE (l:=l) (k:=k) fun a R b hb=>h a (.tail _ R) b (.tail _ hb)) fun y G=>⟨x&&y,?_⟩
  show (match q a b with|some x=>(match gk q l k with|some y=>some (x&&y)|none=>none)|none=>none)=_;rw [D,G]
theorem pW:∀{F f g:Nat} {d e:DV},f≤F→wj f d=true→wj g e=true→∃b,h_ F d e=some b
 |F,0,_,d,e,_,h,_=>nof h
 |0,f+1,_,_,_,h,_,_=>absurd h (Nat.not_succ_le_zero _)
 |F+1,f+1,g,d,e,hf,hd,he=>by
  cases g with
  |zero=>exact nof he
  |succ g=>
   cases d with
   |ai l=>cases e with
    |ai k=>refine aA (oE (q:=h_ F) (l:=l) (k:=k) fun a R b hb=>pW (Nat.le_of_succ_le_succ hf) (gh hd a R) (gh he b hb)) fun x D=>⟨x,D⟩
    |none=>exact ⟨_,rfl⟩
    |int=>exact ⟨_,rfl⟩
    |str=>exact ⟨_,rfl⟩
    |_=>exact nof he
   |none=>cases e<;>first|exact ⟨_,rfl⟩|exact nof he
   |int=>cases e<;>first|exact ⟨_,rfl⟩|exact nof he
   |str=>cases e<;>first|exact ⟨_,rfl⟩|exact nof he
   |_=>exact nof hd
theorem zd (D:Pl x):∀{l:zL},(∀d∈l,Pl d)→∃b,iX l x=some b
 |[],_=>⟨_,rfl⟩
 |y::l,h=>by
  refine aA (pW (F:=8) aD (h y (.head _)) D) fun p O=>aA (zd D fun d hd=>h d (.tail _ hd)) fun q H=>⟨p||q,?_⟩
  show (match i_ y x with|some a=>(match iX l x with|some b=>some (a||b)|none=>none)|none=>none)=_;rw [show i_ y x=some p from O,H]
theorem e9 {l:zL} {P:List DV→Prop} (hd:Pl d) (L:∀d∈l,Pl d) (X:iX l d=some true→P l) (S:iX l d=some false→P (l++[d])):P (once l d):=by
 refine aA (zd hd L) fun b hb=>?_;unfold once;rw [hb];cases b
 ·exact S hb
 ·exact X hb
def j7 (d:DV):Prop:=∃m s k,d= .ai [I m,.str s,I k]
theorem vm {y:DV} (D:j7 x) (G:j7 y):∃b,i_ x y=some b:=by refine t9 D fun m s k J=>?_;subst J;refine t9 G fun m' s' k' J=>?_;subst J;exact pW (F:=8) (f:=4) (g:=4) aD rfl rfl
theorem iz (D:j7 x):∀{l:zD},(∀p∈l,j7 p.1)→∃b,eZ (aY l x)=some b
 |[],_=>⟨_,rfl⟩
 |p::l,h=>by
  refine aA (vm (h p (.head _)) D) fun b hb=>?_;show ∃c,eZ (match i_ p.1 x with|some b=>(match b with|true=>some (some p.2)|false=>aY l x)|none=>none)=some c;rw [hb];cases b
  ·exact iz D fun q H=>h q (.tail _ H)
  ·exact ⟨_,rfl⟩
theorem oH {v:DV} (D:j7 x):∀{l:zD},(∀p∈l,j7 p.1)→(∀p∈aM l x v,j7 p.1)∧(aM l x v).length≤l.length+1
 |[],_=>⟨fun p O=>(dP O).elim (fun z=>z▸D) (fun z=>nomatch z),jd _⟩
 |p::l,h=>by
  refine aA (vm (h p (.head _)) D) fun b hb=>?_;have e:aM (p::l) x v=match i_ p.1 x with|some b=>(match b with|true=>(p.1,v)::l|false=>p::aM l x v)|none=>p::aM l x v:=rfl
  rw [e,hb];refine aZ (oH (v:=v) D fun q H=>h q (.tail _ H)) fun U T=>?_;cases b
  ·exact ⟨fun q H=>(dP H).elim (fun z=>z▸h p (.head _)) (U q),Nat.succ_le_succ T⟩
  ·exact ⟨fun q H=>(dP H).elim (fun z=>z▸h p (.head _)) fun z=>h q (.tail _ z),Nat.le_succ _⟩
noncomputable def i6:List Nat:=[8,35,36,37,39,41,45,46,47,48,53,54,55]
structure dN (c:Nat) (a:Ab):Prop where
 l:∀t j,(a.l t j).length≤10+c
 pl:∀t j,∀d∈a.l t j,Pl d
 g3:∀t∈i6,a.l t 3≠[]∧a.l t 4≠[]
 fs:64≤a.fs.length∧a.fs.length≤64+c
 ms:256≤a.ms.length∧a.ms.length≤256+c
 cc:∀t,a.cc t= .ofNat 0∨∃n,256≤n∧a.cc t= .ofNat n
 fin:∀t,∃n,a.fin t= .ofNat n
 ns:(∀p∈a.ns,j7 p.1)∧a.ns.length≤55+c
 as:1≤a.as.length∧a.as.length≤1+c
 ts:a.ts.length≤c
def ym (h E:Rg):Prop:=h.n≤E.n∧∀j,j<h.n→E.t.get j=h.t.get j
def jB (h:Rg) (C k:Nat) (d:DV) (o:Nat):Prop:=(d= .none∧o=0)∨(o≠0∧∃y v b as,d= .aj 9 y∧y<h.n∧h.t.get y=some ⟨v,.inst C ((k,b)::(48,I o)::as)⟩)
theorem jB.rV (x:jB h C k d o) (g:ym h E):jB E C k d o:=x.imp id fun h=>⟨h.1,h.2.imp fun y h=>h.imp fun v h=>h.imp fun b h=>h.imp fun as h=>⟨h.1,tM h.2.1 g.1,(g.2 y h.2.1).trans h.2.2⟩⟩
def Own (h:Rg) (C k:Nat) (ds:zL) (os:List Nat):Prop:=ds.length=os.length∧∀(i:Nat) d o,ds[i]?=some d→os[i]?=some o→jB h C k d o
theorem Own.rV (x:Own h C k ds os) (g:ym h E):Own E C k ds os:=⟨x.1,fun i d o a b=>(x.2 i d o a b).rV g⟩
theorem Own.app (x:Own h C k ds os) (y:jB h C k d o):Own h C k (ds++[d]) (os++[o]):=by
 refine ⟨by rw [fO,fO,x.1];rfl,fun i d' N A B=>?_⟩;by_cases q:i<ds.length
 ·rw [uR q] at A
  rw [uR (x.1▸q)] at B;exact x.2 i d' N A B
 ·rw [Bx (QH q)] at A
  rw [Bx (by have:=x.1;exact Sf this q),←x.1] at B;cases K:i -ds.length with
  |zero=>rw [K] at A B;cases A;cases B;exact y
  |succ n=>rw [K] at A;exact nomatch A
theorem Own.set {j:Nat} (x:Own h C k ds os) (y:jB h C k d o):Own h C k (ds.set j d) (os.set j o):=by
 refine ⟨by rw [List.length_set,List.length_set,x.1],fun i d' N A B=>?_⟩;rw [List.getElem?_set] at A B;by_cases q:j=i
 ·subst q
  rw [bk rfl] at A B;by_cases L:j<ds.length
  ·rw [bk L] at A;rw [bk (x.1▸L)] at B
   cases A;cases B;exact y
  ·rw [aS L] at A;exact nomatch A
 ·rw [aS q] at A B
  exact x.2 i d' N A B
noncomputable def Lw (r j:Nat):List DV:=if j=2 then abcd r else if j=3 then List.replicate r (I 0) else if j=4 then List.replicate r (.ai [I 0,.ai []]) else []
def yD (h:Rg) (ak:Nat) (p:Str×Nat) (d:DV):Prop:=∃y v,d= .aj 9 y∧y+9<h.n∧h.t.get y=some (lK v 9 y ak p.1 (.ofNat 2) (.ofNat 2) (.ofNat 16) (.ofNat 0) (.ofNat 0))∧∀j,1≤j→j≤9→∃v,h.t.get (y+j)=some ⟨v,.list (Lw p.2 j)⟩
theorem yD.rV {ak:Nat} {p:Str×Nat} (x:yD h ak p d) (g:ym h E):yD E ak p d:=by
 refine tZ x fun y v e G S V=>⟨y,v,e,tM G g.1,(g.2 y (Sg G)).trans S,fun j a b=>?_⟩
 refine aA (V j a b) fun u hu=>⟨u,(g.2 (y+j) (Sh G a b)).trans hu⟩
def iw (h:Rg) (Q:Rg→Nat→Str×Nat→DV→Prop) (ts:List (Str×Nat)) (x:zL):Prop:=x.length=ts.length∧∀(i:Nat) d p,x[i]?=some d→ts[i]?=some p→Q h (64+i) p d
theorem iw.rV {Q:Rg→Nat→Str×Nat→DV→Prop} {ts:List (Str×Nat)} {x:zL} (q:∀{t p d},Q h t p d→Q E t p d) (n:iw h Q ts x):iw E Q ts x:=⟨n.1,fun i d p a b=>q (n.2 i d p a b)⟩
theorem iw.app {Q:Rg→Nat→Str×Nat→DV→Prop} {ts:List (Str×Nat)} {x:zL} {p:Str×Nat} (n:iw h Q ts x) (y:Q h (64+ts.length) p d):iw h Q (ts++[p]) (x++[d]):=by
 refine ⟨by rw [fO,fO,n.1];rfl,fun i d' p' A B=>?_⟩;by_cases q:i<x.length
 ·rw [uR q] at A
  rw [uR (n.1▸q)] at B;exact n.2 i d' p' A B
 ·rw [Bx (QH q)] at A
  rw [Bx (by have:=n.1;exact Sf this q),←n.1] at B;cases K:i -x.length with
  |zero=>
   rw [K] at A B;cases A;cases B;have:i=ts.length:=by have:=n.1;exact Wc K this q
   subst this;exact y
  |succ m=>rw [K] at A;exact nomatch A
noncomputable def dO:List DV:=(List.range 16).map (fun i=> .ai [I 1,I i])++[2,7,24,31,38,6].map fun b=> .ai [I 2,I b,.ai []]
noncomputable def Lb:List DV:=(List.range 64).map fun t=>if 1≤t∧t≤55 then .aj 2 (8+10*t) else .none
noncomputable def iI:Nat→List DV→List (DV×DV)
 |_,[]=>[]
 |n,d::l=>(d,I n)::iI (n+1) l
theorem lX {m:zL}:∀{l:zL} {n:Nat},iI n (l++m)=iI n l++iI (n+l.length) m
 |[],_=>rfl
 |x::l,n=>by show (x,I n)::iI (n+1) (l++m)=(x,I n)::(iI (n+1) l++iI (n+(l.length+1)) m);rw [lX,show n+1+l.length=n+(l.length+1) by exact QI]
theorem kh {p:DV×DV}:aY (p::l) x=match i_ p.1 x with|some b=>(match b with|true=>some (some p.2)|false=>aY l x)|none=>none:=rfl
theorem jG {m:zD}:∀{l:zD},aY l x=some (some d)→aY (l++m) x=some (some d)
 |[],h=>aW (bw h)
 |p::l,h=>by
  rw [List.cons_append,kh];rw [kh] at h;cases e:i_ p.1 x with
  |none=>rw [e] at h;exact aW h
  |some b=>
   rw [e] at h;cases b with
   |true=>exact h
   |false=>exact jG h
theorem mW {z:DV} (h:aY l x=some (some d)):b8 l x z=some d:=by show (match aY l x with|some o=>(match o with|some d=>some d|none=>some z)|none=>none)=some d;rw [h]
theorem zc {z:DV} (h:aY l x=some none):b8 l x z=some z:=by show (match aY l x with|some o=>(match o with|some d=>some d|none=>some z)|none=>none)=some z;rw [h]
structure iW (a:Ab) (e:Ex) (h:Rg):Prop where
 rows:∃x,e.rows=dO++x∧(x=[]∨x=[.ai [I 6,I 7]])∧e.dp.length=22+x.length∧e.wt.length=22+x.length∧e.op.length=22+x.length
 ki:e.ki=iI 0 e.rows
 ty:∃x,e.ty=Lb++x∧iw h yD a.ts x
 fl:Own h 441 47 e.fl a.fs
 ml:Own h 462 52 e.ml a.ms
def eY (a:Ab) (g h:Rg):Prop:=∃e,bZ VS jg (lA a e) g.t∧iW a e h
theorem iW.k2 {a:Ab} {e:Ex} (x:iW a e h):b8 e.ki (.ai [I 2,I 2,.ai []]) (.int (.negSucc 0))=some (I 16):=by refine az x.rows fun y G Z=>?_;rw [x.ki,G,lX];exact mW (jG cg)
theorem iW.rV {a:Ab} {e:Ex} (x:iW a e h) (g:ym h E):iW a e E:=⟨x.rows,x.ki,let ⟨y,a,b⟩:=x.ty;⟨y,a,b.rV fun q=>q.rV g⟩,x.fl.rV g,x.ml.rV g⟩
theorem Bo {x:zL} {t:Nat} (M:t<55):aL (Lb++x) (t+1)=some (.aj 2 (8+10*(t+1))):=by rw [aH,uR (by simp [Lb];exact FN M)];unfold Lb;rw [List.getElem?_map,List.getElem?_range (FN M)];show some (if 1≤t+1∧t+1≤55 then _ else _)=_;rw [bk ⟨by exact QJ M,by exact QK M⟩]
end
section
theorem aB {n:Nat} (h:n≤5000):some (small n)=some true:=congrArg some (Nat.ble_eq_true_of_le h)
theorem d_ {n m:Nat} (h:n<m):some (Nat.blt n m)=some true:=congrArg some (Nat.ble_eq_true_of_le h)
theorem jE {n m:Nat} (h:¬n<m):some (Nat.blt n m)=some false:=congrArg some (by rw [blt_iff];exact nU h)
theorem cH {n:Nat} (h:n≠0):(some !Nat.blt 0 n)=some false:=by rw [blt_iff,gH (Nat.pos_of_ne_zero h)];rfl
theorem nY {n:Nat}:Nat.beq n n=true:=Nat.beq_refl n
theorem bU {n m:Nat} (h:n≠m):Nat.beq n m=false:=by rw [cK];exact nU h
theorem cV {a:Ab} {t j:Nat}:a.bz t j (a.l t j)=a:=by
 have:(fun s k=>if s=t∧k=j then a.l t j else a.l s k)=a.l:=by
  funext s k
  by_cases q:s=t∧k=j
  ·rw [bk q,q.1,q.2]
  ·rw [aS q]
 unfold Ab.bz;rw [this]
theorem fX {α:Type} {l:List α} {k:Nat} {x:α} (h:k<l.length):aL (l.set k x) k=some x:=by rw [aH,List.getElem?_set,bk rfl,bk h]
theorem vZ {α:Type} {l:List α} {x:α}:aL (l++[x]) l.length=some x:=by rw [aH,Bx (jd _),Nat.sub_self];rfl
theorem l7 {κ:Type} {w:List (κ×DV)→CB} {k:Nat} {as:List (κ×DV)} {T0 T:TC} (h:∀j,j<k→T.get j=T0.get j):j_ w k 0 as [] T0 (.aq k ⟨0,w as⟩ T):=
 ⟨by rw [TC.ay,bk rfl],(fun i u b e=>nomatch (List.getElem?_nil.symm.trans e)),fun j hj=>by rw [TC.ay,aS (HE hj)];exact h j hj⟩
section
variable {a:Ab} {e:Ex} {g:TC} {h:Rg} {t j c i:Nat}
theorem i9 {R:Prop} (X:bZ VS jg (lA a e) g) (O:iW a e h) (V:t<55) (k:∀v0 v1 v2,g.get 0=some (stC v0 2)→g.get 13=some ⟨v1,.list e.ty⟩→aL e.ty (t+1)=some (.aj 2 (8+10*(t+1)))→g.get (8+10*(t+1))=some (lK v2 2 (8+10*(t+1)) (t+1) (d8 (t+1)) (fq (t+1)) (m7 (t+1)) (gZ (t+1)) (a.cc (t+1)) (a.fin (t+1)))→R):R:=by refine aA (X (0,0) (.head _)) fun v0 q0=>aA (X (0,13) (by simp [VS])) fun v1 f=>aA (X (t+1,0) ⟨V,Nat.zero_le _⟩) fun v2 o=>az O.ty fun x hx Z=>k v0 v1 v2 q0 f (hx▸Bo V) o
theorem iJ (X:bZ VS jg (lA a e) g) (V:t<55) (hj:j<9):∃v,g.get (8+10*(t+1)+(j+1))=some ⟨v,.list (a.l (t+1) (j+1))⟩:=X (t+1,j+1) ⟨V,hj⟩
theorem cy (X:bZ VS jg (lA a e) g) (hj:j∈[0,1,2,3,4,5,6,10,11,13,15,17]):∃v,g.get j=some ⟨v,spS a e j⟩:=X (0,j) hj
theorem gT (B:dN c a) (y:c≤8):(a.l t j).length≤5000:=by have:=B.l t j;exact We this y
theorem iW.bz {x:zL} (O:iW a e h):iW (a.bz t j x) e h:=⟨O.rows,O.ki,O.ty,O.fl,O.ml⟩
end
section
variable {n:Nat} {E C D F K L J M S Q U A:Rg} {Z:zP} {a:Ab} {c t i:Nat}
abbrev pH (Z:zP) (E C F K L J M S U A:Rg) (x:Ab×DV):Prop:=∀g h,eY x.1 g h→Z (.v x.2) [E,C,g,F,K,L,J,M,S,h,U,A] []∧Z (.z x.2) [E,C,g,F,K,L,J,M,S,h,U,A] []
theorem T7 (H:eY a D Q) (B:dN c a) (y:c≤8) (V:t<55) (Y:pH Z E C F K L J M S U A (eO a 0 (t+1) i)):eX Z E C D F K L J M S Q U A n 0 (t+1) i:=by
 refine az H fun e X O=>i9 X O V fun v0 v1 v2 q0 f o r=>aA (iJ (j:=0) X V aD) fun v3 p=>?_;have hm:i%2=0∨i%2=1:=QL;obtain ⟨d,hd,pd⟩:∃d,aL [I 7,I 13] (i%2)=some d∧Pl d:=by rcases hm with q|q<;>rw [q]<;>exact cJ _ rfl rfl
 have e0:eO a 0 (t+1) i=(a.bz (t+1) 1 (once (a.l (t+1) 1) d),I 0):=by show (match aL [I 7,I 13] (i%2) with|some d=>(a.bz (t+1) 1 (once (a.l (t+1) 1) d),I 0)|none=>(a,I 0))=_;rw [hd]
 rw [e0] at Y;revert Y;refine e9 (P:=fun x=>pH Z E C F K L J M S U A (a.bz (t+1) 1 x,I 0)→_) pd (B.pl _ _) (fun hb Y=>?_) fun hb Y=>?_
 ·rw [cV] at Y
  exact L4 (aB Lr) hd q0 f (aB (cM V)) o r p hb (Y D Q H).1
 ·exact L3 (aB Lr) hd q0 f (aB (cM V)) o r p hb (aB (gT B y)) (Y ⟨D.n,_⟩ Q ⟨e,d7 (j:=0) X V aD,O.bz⟩).1
theorem Ud (H:eY a D Q) (B:dN c a) (y:c≤8) (V:t<55) (Y:pH Z E C F K L J M S U A (eO a 7 (t+1) i)):eX Z E C D F K L J M S Q U A n 7 (t+1) i:=by
 refine az H fun e X O=>i9 X O V fun v0 v1 v2 q0 f o r=>aA (iJ (j:=7) X V aD) fun v3 p=>?_;revert Y;refine e9 (P:=fun x=>pH Z E C F K L J M S U A (a.bz (t+1) 8 x,I 0)→_) rfl (B.pl _ _) (fun hb Y=>?_) fun hb Y=>?_
 ·rw [cV] at Y
  exact L6 q0 f (aB (cM V)) o r p hb (Y D Q H).1
 ·exact L5 q0 f (aB (cM V)) o r p hb (aB (gT B y)) (Y ⟨D.n,_⟩ Q ⟨e,d7 (j:=7) X V aD,O.bz⟩).1
theorem Ue (H:eY a D Q) (B:dN c a) (y:c≤8) (V:t<55) (Y:pH Z E C F K L J M S U A (eO a 8 (t+1) i)):eX Z E C D F K L J M S Q U A n 8 (t+1) i:=by
 refine az H fun e X O=>i9 X O V fun v0 v1 v2 q0 f o r=>aA (iJ (j:=8) X V aD) fun v3 p=>?_;revert Y;refine e9 (P:=fun x=>pH Z E C F K L J M S U A (a.bz (t+1) 9 x,I 0)→_) rfl (B.pl _ _) (fun hb Y=>?_) fun hb Y=>?_
 ·rw [cV] at Y
  exact L8 q0 f (aB (cM V)) o r p hb (Y D Q H).1
 ·exact L7 q0 f (aB (cM V)) o r p hb (aB (gT B y)) (Y ⟨D.n,_⟩ Q ⟨e,d7 (j:=8) X V aD,O.bz⟩).1
theorem Ug (H:eY a D Q) (B:dN c a) (y:c≤8) (V:t<55) (Y:pH Z E C F K L J M S U A (eO a 9 (t+1) i)):eX Z E C D F K L J M S Q U A n 9 (t+1) i:=by
 refine az H fun e X O=>i9 X O V fun v0 v1 v2 q0 f o r=>aA (iJ (j:=6) X V aD) fun v3 p=>?_;revert Y;refine e9 (P:=fun x=>pH Z E C F K L J M S U A (a.bz (t+1) 7 x,I 0)→_) rfl (B.pl _ _) (fun hb Y=>?_) fun hb Y=>?_
 ·rw [cV] at Y
  exact Ma q0 f (aB (cM V)) o r p hb (Y D Q H).1
 ·exact L_ q0 f (aB (cM V)) o r p hb (aB (gT B y)) (Y ⟨D.n,_⟩ Q ⟨e,d7 (j:=6) X V aD,O.bz⟩).1
theorem T8 (H:eY a D Q) (B:dN c a) (y:c≤8) (V:t<55) (hg:t+1∈i6) (Y:pH Z E C F K L J M S U A (eO a 1 (t+1) i)):eX Z E C D F K L J M S Q U A n 1 (t+1) i:=by refine az H fun e X O=>i9 X O V fun v0 v1 v2 q0 f o r=>aA (iJ (j:=3) X V aD) fun v3 p=>Tc q0 f (aB (cM V)) o r p (d_ (List.length_pos_iff.mpr (B.g3 _ hg).2)) (Y ⟨D.n,_⟩ Q ⟨e,d7 (j:=3) X V aD,O.bz⟩).1
theorem T9 (H:eY a D Q) (B:dN c a) (y:c≤8) (V:t<55) (hg:t+1∈i6) (Y:pH Z E C F K L J M S U A (eO a 2 (t+1) i)):eX Z E C D F K L J M S Q U A n 2 (t+1) i:=by refine az H fun e X O=>i9 X O V fun v0 v1 v2 q0 f o r=>aA (iJ (j:=2) X V aD) fun v3 p=>Td q0 f (aB (cM V)) o r p (d_ (List.length_pos_iff.mpr (B.g3 _ hg).1)) (Y ⟨D.n,_⟩ Q ⟨e,d7 (j:=2) X V aD,O.bz⟩).1
theorem Uc (H:eY a D Q) (B:dN c a) (y:c≤8) (Y:pH Z E C F K L J M S U A (eO a 6 t i)):eX Z E C D F K L J M S Q U A n 6 t i:=by refine az H fun e X O=>aA (cy (j:=0) X aD) fun v0 q0=>aA (cy (j:=11) X aD) fun v1 f=>?_;have:=B.as;exact Tg q0 f (aB (I_ this y)) (aB (by rw [fO];show a.as.length+1≤5000;exact Ja this y)) (Y ⟨D.n,_⟩ Q ⟨e,c9 (j:=11) (a':={a with as:=a.as++[oZ]}) (e':=e) X aD rfl rfl rfl (dK cg) rfl,⟨O.rows,O.ki,O.ty,O.fl,O.ml⟩⟩).1
theorem zm {fid ak:Nat} {nm:DV}:ym Q ⟨Q.n+1,pz 9 (c5 441) Q.n (E4 fid ak nm) 0 [] [] (.aq Q.n ⟨0,.inst 441 []⟩ Q.t)⟩∧(ak≠0→jB ⟨Q.n+1,pz 9 (c5 441) Q.n (E4 fid ak nm) 0 [] [] (.aq Q.n ⟨0,.inst 441 []⟩ Q.t)⟩ 441 47 (.aj 9 Q.n) ak):=by have P:=lg 9 (c5 441) Q.n (is:=E4 fid ak nm) (l7 (w:=c5 441) (k:=Q.n) (as:=[]) (T0:=Q.t) (T:=Q.t) fun Z Z=>rfl);exact ⟨⟨Nat.le_succ _,P.old⟩,fun h=> .inr ⟨h,Q.n,_,_,_,rfl,Nat.lt_succ_self _,P.bX⟩⟩
theorem Ag {mid ak ac fl:Nat} {nm:DV}:ym Q ⟨Q.n+4,pz 9 (c5 462) Q.n (xN mid ak nm ac fl) 0 [] [] (.aq Q.n ⟨0,.inst 462 []⟩ Q.t)⟩∧(ak≠0→jB ⟨Q.n+4,pz 9 (c5 462) Q.n (xN mid ak nm ac fl) 0 [] [] (.aq Q.n ⟨0,.inst 462 []⟩ Q.t)⟩ 462 52 (.aj 9 Q.n) ak):=by have P:=lg 9 (c5 462) Q.n (is:=xN mid ak nm ac fl) (l7 (w:=c5 462) (k:=Q.n) (as:=[]) (T0:=Q.t) (T:=Q.t) fun Z Z=>rfl);exact ⟨⟨Nat.le_add_right _ _,P.old⟩,fun h=> .inr ⟨h,Q.n,_,_,_,rfl,Nat.lt_add_of_pos_right aD,P.bX⟩⟩
theorem T_ (H:eY a D Q) (B:dN c a) (y:c≤8) (V:t<55) (Y:pH Z E C F K L J M S U A (eO a 3 (t+1) i)):eX Z E C D F K L J M S Q U A n 3 (t+1) i:=by
 refine az H fun e X O=>i9 X O V fun v0 v1 v2 q0 f o r=>aA (iJ (j:=4) X V aD) fun v3 p=>aA (cy (j:=15) X aD) fun v4 q5=>?_;have hl:=O.fl.1;have:=B.fs;have e0:eO a 3 (t+1) i=({a.bz (t+1) 5 (a.l (t+1) 5++[I e.fl.length]) with fs:=a.fs++[t+1]},I e.fl.length):=by rw [hl];rfl
 rw [e0] at Y;have N:=zm (Q:=Q) (fid:=e.fl.length) (ak:=t+1) (nm:= .str ⟨⟨[102]⟩⟩);exact Te q0 f (aB (cM V)) o q5 (aB (Jb this hl y)) Nx r Ny p (aB (gT B y)) (Y ⟨D.n,_⟩ ⟨Q.n+1,_⟩ ⟨{e with fl:=e.fl++[.aj 9 Q.n]},d7 (a:={a with fs:=a.fs++[t+1]}) (j:=4) (c9 (j:=15) (a':={a with fs:=a.fs++[t+1]}) (e':={e with fl:=e.fl++[.aj 9 Q.n]}) X aD rfl rfl rfl (dK cg) rfl) V aD,
  let G:=O.rV N.1;⟨G.rows,G.ki,G.ty,G.fl.app (N.2 (Cu V)),G.ml⟩⟩).1
end
end
section
variable {k:Nat} {h:Rg} {C:Nat}
theorem j0 {f:Nat→Int} {t:Nat}:upd f t (f t)=f:=by
 funext s
 unfold upd;by_cases q:s=t
 ·rw [bk q,q]
 ·rw [aS q]
theorem DA {f:Nat→Int} {t:Nat} {x y:Int}:upd (upd f t x) t y=upd f t y:=by
 funext s
 unfold upd;by_cases q:s=t
 ·rw [bk q,bk q]
 ·rw [aS q,aS q,aS q]
theorem fY {a:Ab} {os:List Nat} {lim ak j:Nat} {f:Ab→List Nat→Ab} {P:Ab×DV→Prop} (hl:lim≤os.length) (h0:k=0→P (a,.int (.negSucc 0))) (Z:k≠0→¬k<lim→P (a,.int (.negSucc 0)))
  (h2:∀o,k≠0→k<lim→os[k]?=some o→o≠0→o≠ak→P (a,.int (.negSucc 0))) (h3:k≠0→k<lim→os[k]?=some 0→P (f (a.bz ak j (a.l ak j++[I k])) (os.set k ak),I k)) (h4:k≠0→k<lim→os[k]?=some ak→ak≠0→P (f a (os.set k ak),I k)):P (xU a os k lim ak j f):=by
 unfold xU;by_cases e0:k=0
 ·rw [e0,nY];exact h0 e0
 rw [bU e0,Bool.false_or,blt_iff];by_cases e1:k<lim
 ·rw [gH e1]
  obtain ⟨o,ho⟩:∃o,os[k]?=some o:=⟨_,tD (tM e1 hl)⟩
  rw [aH,ho];show P (match !(Nat.beq 0 o||(ak.beq o||false)) with|true=>_|false=>match o.beq 0 with|true=>_|false=>_);by_cases z:o=0
  ·subst z;exact h3 e0 e1 ho
  ·rw [bU (Ne.symm z),Bool.false_or,Bool.or_false]
   by_cases y:o=ak
   ·subst y
    rw [nY,bU z];exact h4 e0 e1 ho z
   ·rw [bU (Ne.symm y)]
    exact h2 o e0 e1 ho z y
 ·rw [nU e1];exact Z e0 e1
theorem Own.at {ds:zL} {os:List Nat} {j o:Nat} (x:Own h C k ds os) (e:os[j]?=some o):∃d,aL ds j=some d∧jB h C k d o:=by have hj:j<ds.length:=x.1▸(jy e).1;exact cJ _ ((aH).trans (tD hj)) (x.2 j _ o (tD hj) e)
theorem jB.zero {d:DV} (x:jB h C k d 0):d= .none:=x.elim And.left fun y=>absurd rfl y.1
theorem jB.pos {d:DV} {o:Nat} (x:jB h C k d o) (ho:o≠0):∃y v b as,d= .aj 9 y∧h.t.get y=some ⟨v,.inst C ((k,b)::(48,I o)::as)⟩:=by
 rcases x with x|⟨_,y,v,b,as,e,_,q⟩
 ·exact absurd x.2 ho
 ·exact ⟨y,v,b,as,e,q⟩
section
variable {n:Nat} {E D F K L M J R S Q U A:Rg} {Φ:zP} {a:Ab} {c t i:Nat}
theorem Ua (H:eY a F Q) (B:dN c a) (u:c≤8) (T:t<55) (V:pH Φ E D K L M J R S U A (eO a 4 (t+1) i)):eX Φ E D F K L M J R S Q U A n 4 (t+1) i:=by
 refine az H fun e X O=>i9 X O T fun v0 v1 v2 q0 q1 q2 q3=>aA (iJ (j:=5) X T aD) fun v3 q4=>aA (cy (j:=17) X aD) fun v4 p=>?_;have hl:=O.ml.1;have:=B.ms;have e0:eO a 4 (t+1) i=({a.bz (t+1) 6 (a.l (t+1) 6++[I e.ml.length]) with ms:=a.ms++[t+1],cc:=upd a.cc (t+1) (.ofNat e.ml.length)},I e.ml.length):=by rw [hl];rfl
 rw [e0] at V;have N:=Ag (Q:=Q) (mid:=e.ml.length) (ak:=t+1) (ac:=1) (fl:=65) (nm:= .str ⟨⟨[46,99,99,116,111,114]⟩⟩);have X3:=vM (v:=v2+1) (cc:= .ofNat e.ml.length) (fin:=a.fin (t+1)) (d7 (v:=v3+1) (x:=a.l (t+1) 6++[I e.ml.length]) (a:={a with ms:=a.ms++[t+1]}) (j:=5) (c9 (j:=17) (v:=v4+1) (a':={a with ms:=a.ms++[t+1]}) (e':={e with ml:=e.ml++[.aj 9 Q.n]}) X aD rfl rfl rfl (dK cg) rfl) T aD) T;have X4:bZ VS jg (lA {a.bz (t+1) 6 (a.l (t+1) 6++[I e.ml.length]) with ms:=a.ms++[t+1],cc:=upd a.cc (t+1) (.ofNat e.ml.length),fin:=upd a.fin (t+1) (a.fin (t+1))} {e with ml:=e.ml++[.aj 9 Q.n]}) _:=X3;rw [j0] at X4;exact Tf q0 q1 (aB (cM T)) q2 p (aB (Si this hl u)) qo q3 Nn q4 (aB (gT B u)) (zZ T) z0 vZ (z4 T) (V ⟨F.n,_⟩ ⟨Q.n+4,_⟩ ⟨_,X4,let G:=O.rV N.1;⟨G.rows,G.ki,G.ty,G.fl,G.ml.app (N.2 (Cu T))⟩⟩).1
theorem MB (H:eY a F Q) (B:dN c a) (u:c≤8) (T:t<55) (V:pH Φ E D K L M J R S U A (eO a 10 (t+1) i)):eX Φ E D F K L M J R S Q U A n 10 (t+1) i:=by
 refine az H fun e X O=>i9 X O T fun v0 v1 v2 q0 q1 q2 q3=>aA (iJ (j:=4) X T aD) fun v3 q4=>aA (cy (j:=15) X aD) fun v4 p=>?_;have hl:=O.fl.1;have hb:=B.fs;have N:=zm (Q:=Q) (fid:=i%65) (ak:=t+1) (nm:= .str ⟨⟨[103]⟩⟩);have O':iW {a with fs:=a.fs.set (i%65) (t+1)} {e with fl:=e.fl.set (i%65) (.aj 9 Q.n)} ⟨Q.n+1,pz 9 (c5 441) Q.n (E4 (i%65) (t+1) (.str ⟨⟨[103]⟩⟩)) 0 [] [] (.aq Q.n ⟨0,.inst 441 []⟩ Q.t)⟩:=let G:=O.rV N.1;⟨G.rows,G.ki,G.ty,G.fl.set (N.2 (Cu T)),G.ml⟩;have sp:∀{a:Ab} {g:TC},bZ VS jg (lA a e) g→bZ VS jg (lA {a with fs:=a.fs.set (i%65) (t+1)} {e with fl:=e.fl.set (i%65) (.aj 9 Q.n)}) (.aq 15 ⟨v4+1,.list (e.fl.set (i%65) (.aj 9 Q.n))⟩ g):=fun {a g} X=>c9 (j:=15) X aD rfl rfl rfl (dK cg) rfl;revert V;refine fY (P:=fun x=>pH Φ E D K L M J R S U A x→_) hb.1 (fun k0 V=>?_) (fun k0 k1 V=>?_) (fun o k0 k1 ko o0 o1 V=>?_) (fun k0 k1 ko V=>?_) fun k0 k1 ko o0 V=>?_
 ·exact Ij (by rw [k0];rfl) (V F Q H).2
 ·exact Ie (cH k0) (d_ (Np k1)) (V F Q H).2
 ·refine az (O.fl.at ko) fun d hd w=>B_ (w.pos o0) fun y v b as r hy=>?_;subst r
  exact Ii (cH k0) (jE (Fw k1)) q0 p (aB (xF k1)) hd hy (by rw [bU o1];rfl) (V F Q H).2
 ·refine az (O.fl.at ko) fun d hd w=>?_
  cases w.zero;exact Ig (cH k0) (jE (Fw k1)) q0 p (aB (xF k1)) hd q1 (aB (cM T)) q2 q3 q4 (aB (gT B u)) (Nq T) Nr (d_ (Cv hb k1 hl u)) (V ⟨F.n,_⟩ ⟨Q.n+1,_⟩ ⟨_,sp (d7 (j:=4) X T aD),O'.bz⟩).1
 ·refine az (O.fl.at ko) fun d hd w=>B_ (w.pos o0) fun y v b as r hy=>?_;subst r
  exact Ih (cH k0) (jE (Fw k1)) q0 p (aB (xF k1)) hd hy (by rw [nY];rfl) (d_ (Cv hb k1 hl u)) (V ⟨F.n,_⟩ ⟨Q.n+1,_⟩ ⟨_,sp X,O'⟩).1
theorem zR {x:Int} {n:Nat} (h:x≠.ofNat n):some (ck x (.ofNat n))=some false:=by rw [bJ,nU h]
theorem I6 {n:Nat}:some (ck (.ofNat n) (.ofNat n))=some true:=by rw [bJ,gH rfl]
theorem MC (H:eY a F Q) (B:dN c a) (u:c≤8) (T:t<55) (V:pH Φ E D K L M J R S U A (eO a 11 (t+1) i)):eX Φ E D F K L M J R S Q U A n 11 (t+1) i:=by
 refine az H fun e X O=>i9 X O T fun v0 v1 v2 q0 q1 q2 q3=>aA (iJ (j:=5) X T aD) fun v3 q4=>aA (cy (j:=17) X aD) fun v4 p=>?_;have hl:=O.ml.1;have hb:=B.ms;have N:=Ag (Q:=Q) (mid:=254+i%3) (ak:=t+1) (ac:=4) (fl:=2) (nm:= .str ⟨⟨[70,105,110,97,108,105,122,101]⟩⟩);have O':∀{f:Nat→Int},iW {a with ms:=a.ms.set (254+i%3) (t+1),fin:=f} {e with ml:=e.ml.set (254+i%3) (.aj 9 Q.n)} ⟨Q.n+4,pz 9 (c5 462) Q.n (xN (254+i%3) (t+1) (.str ⟨⟨[70,105,110,97,108,105,122,101]⟩⟩) 4 2) 0 [] [] (.aq Q.n ⟨0,.inst 462 []⟩ Q.t)⟩:=let G:=O.rV N.1;⟨G.rows,G.ki,G.ty,G.fl,G.ml.set (N.2 (Cu T))⟩;have sp:∀{a:Ab} {g:TC},bZ VS jg (lA a e) g→bZ VS jg (lA {a with ms:=a.ms.set (254+i%3) (t+1)} {e with ml:=e.ml.set (254+i%3) (.aj 9 Q.n)}) (.aq 17 ⟨v4+1,.list (e.ml.set (254+i%3) (.aj 9 Q.n))⟩ g):=fun {a g} X=>c9 (j:=17) X aD rfl rfl rfl (dK cg) rfl;have td:∀{a':Ab} {g:TC} {e:Ex} {v:Nat} {f:Int},bZ VS jg (lA a' e) g→bZ VS jg (lA {a' with fin:=upd a'.fin (t+1) f} e) (.aq (8+10*(t+1)) ⟨v,.inst 420 (mw 2 (8+10*(t+1)) (t+1) (d8 (t+1)) (fq (t+1)) (m7 (t+1)) (gZ (t+1)) (a'.cc (t+1)) f)⟩ g):=fun {a' g e v f} X=>by have:=vM (v:=v) (cc:=a'.cc (t+1)) (fin:=f) X T;rwa [j0] at this
 have LD:∀{a':Ab} {g:TC} {e:Ex} {v v':Nat} {f f':Int},bZ VS jg (lA a' e) g→bZ VS jg (lA {a' with fin:=upd a'.fin (t+1) f} e) (.aq (8+10*(t+1)) ⟨v,.inst 420 (mw 2 (8+10*(t+1)) (t+1) (d8 (t+1)) (fq (t+1)) (m7 (t+1)) (gZ (t+1)) (a'.cc (t+1)) f)⟩ (.aq (8+10*(t+1)) ⟨v',.inst 420 (mw 2 (8+10*(t+1)) (t+1) (d8 (t+1)) (fq (t+1)) (m7 (t+1)) (gZ (t+1)) (a'.cc (t+1)) f')⟩ g)):=fun {a' g e v v' f f'} X=>by have:=td (v:=v) (f:=f) (td (v:=v') (f:=f') X);have this:bZ VS jg (lA {a' with fin:=upd (upd a'.fin (t+1) f') (t+1) f} e) _:=this;rwa [DA] at this
 have Y:some (ck (a.cc (t+1)) (.ofNat (254+i%3)))=some false∨¬254+i%3<256:=by
  rcases B.cc (t+1) with q|⟨m,hm,q⟩
  ·rw [q];exact .inl (zR fun z=>by have:=Int.ofNat.inj z;exact Nt this)
  ·by_cases z:254+i%3<256
   ·rw [q];exact .inl (zR fun z'=>by have:=Int.ofNat.inj z';exact Nu z hm this)
   ·exact .inr z
 have IY:some (ck (a.fin (t+1)) (.ofNat (254+i%3)))=some false∨some (ck (a.fin (t+1)) (.ofNat (254+i%3)))=some true:=by
  by_cases q:a.fin (t+1)= .ofNat (254+i%3)
  ·exact .inr (by rw [q];exact I6)
  ·exact .inl (zR q)
 have Z:some ((t+1).beq 1)=some true∨some ((t+1).beq 1)=some false:=by
  by_cases q:t+1=1
  ·exact .inl (by rw [q];rfl)
  ·exact .inr (by rw [bU q])
 revert V;refine fY (P:=fun x=>pH Φ E D K L M J R S U A x→_) hb.1 (fun k0 V=>?_) (fun k0 k1 V=>?_) (fun o k0 k1 ko o0 o1 V=>?_) (fun k0 k1 ko V=>?_) fun k0 k1 ko o0 V=>?_
 ·exact absurd k0 (q8)
 ·exact Ik (cH k0) (d_ (Nv k1)) (V F Q H).2
 ·refine az (O.ml.at ko) fun d hd w=>B_ (w.pos o0) fun y v b as r hy=>?_;subst r
  exact Il (cH k0) (jE (qt k1)) q0 p (aB (lG k1)) hd hy (by rw [bU o1];rfl) (V F Q H).2
 ·refine az (O.ml.at ko) fun d hd w=>?_
  cases w.zero;have Y:=Y.resolve_right fun z=>z k1;have hm:254+i%3<e.ml.length:=Cw k1 hb hl u;have Xb:=sp (d7 (j:=5) (v:=v3+1) (x:=a.l (t+1) 6++[I (254+i%3)]) X T aD);rcases IY with hf|hf<;>rcases Z with Z|Z
  ·exact BX (cH k0) (jE (qt k1)) q0 p (aB (lG k1)) hd q1 (aB (cM T)) q2 q3 q4 (aB (gT B u)) (zZ T) z0 (d_ hm) (z4 T) qo Y hf (fX hm) Z (V ⟨F.n,_⟩ ⟨Q.n+4,_⟩ ⟨_,td Xb,O'.bz⟩).1
  ·exact BW (cH k0) (jE (qt k1)) q0 p (aB (lG k1)) hd q1 (aB (cM T)) q2 q3 q4 (aB (gT B u)) (zZ T) z0 (d_ hm) (z4 T) qo Y hf (fX hm) Z (V ⟨F.n,_⟩ ⟨Q.n+4,_⟩ ⟨_,td Xb,O'.bz⟩).1
  ·exact BV (cH k0) (jE (qt k1)) q0 p (aB (lG k1)) hd q1 (aB (cM T)) q2 q3 q4 (aB (gT B u)) (zZ T) z0 (d_ hm) (z4 T) qo Y hf (Cy T) Cz (fX hm) CA Z (V ⟨F.n,_⟩ ⟨Q.n+4,_⟩ ⟨_,LD Xb,O'.bz⟩).1
  ·exact BS (cH k0) (jE (qt k1)) q0 p (aB (lG k1)) hd q1 (aB (cM T)) q2 q3 q4 (aB (gT B u)) (zZ T) z0 (d_ hm) (z4 T) qo Y hf (Cy T) Cz (fX hm) CA Z (V ⟨F.n,_⟩ ⟨Q.n+4,_⟩ ⟨_,LD Xb,O'.bz⟩).1
 ·refine az (O.ml.at ko) fun d hd w=>B_ (w.pos o0) fun y v b as r hy=>?_;subst r
  have Y:=Y.resolve_right fun z=>z k1;have hm:254+i%3<e.ml.length:=Cw k1 hb hl u;rcases IY with hf|hf<;>rcases Z with Z|Z
  ·exact B4 (cH k0) (jE (qt k1)) q0 p (aB (lG k1)) hd hy (by rw [nY];rfl) (d_ hm) q1 (aB (cM T)) q2 qo q3 Y hf (fX hm) Z (V ⟨F.n,_⟩ ⟨Q.n+4,_⟩ ⟨_,td (sp X),O'⟩).1
  ·exact B0 (cH k0) (jE (qt k1)) q0 p (aB (lG k1)) hd hy (by rw [nY];rfl) (d_ hm) q1 (aB (cM T)) q2 qo q3 Y hf (fX hm) Z (V ⟨F.n,_⟩ ⟨Q.n+4,_⟩ ⟨_,td (sp X),O'⟩).1
  ·exact BZ (cH k0) (jE (qt k1)) q0 p (aB (lG k1)) hd hy (by rw [nY];rfl) (d_ hm) q1 (aB (cM T)) q2 qo q3 Y hf (Cy T) Cz (fX hm) CA Z (V ⟨F.n,_⟩ ⟨Q.n+4,_⟩ ⟨_,LD (sp X),O'⟩).1
  ·exact BY (cH k0) (jE (qt k1)) q0 p (aB (lG k1)) hd hy (by rw [nY];rfl) (d_ hm) q1 (aB (cM T)) q2 qo q3 Y hf (Cy T) Cz (fX hm) CA Z (V ⟨F.n,_⟩ ⟨Q.n+4,_⟩ ⟨_,LD (sp X),O'⟩).1
end
end
section
theorem nine {P:Nat→Prop} (a1:P 1) (a2:P 2) (a3:P 3) (a4:P 4) (a5:P 5) (a6:P 6) (a7:P 7) (a8:P 8) (a9:P 9) (j:Nat) (h1:1≤j) (h9:j≤9):P j:=by
 cases j with
 |zero=>exact absurd h1 (Nat.not_lt_zero _)
 |succ j=>exact jV (P:=fun j=>j<9→P (j+1)) (tM h9 aD) (fun Z=>a1) (fun Z=>a2) (fun Z=>a3) (fun Z=>a4) (fun Z=>a5) (fun Z=>a6) (fun Z=>a7) (fun Z=>a8) (fun Z=>a9) (fun h=>absurd h aD) (fun h=>absurd h aD) (fun h=>absurd h aD) h9
noncomputable abbrev Ry (Q:Rg) (ak:Nat) (aK:Str) (r:Nat):Rg:=⟨Q.n+12,pz 9 (c5 420) (Q.n+2) (Bm ak aK (abcd r)) 0 [] [] (.aq (Q.n+2) ⟨0,.inst 420 []⟩ (.aq (Q.n+1) ⟨0,.list (abcd r)⟩ (.aq Q.n ⟨0,.list (abcd 4)⟩ Q.t)))⟩
noncomputable def Wg (r:Nat):List (Nat×CB):=[(0,.list []),(r,.list (abcd r)),(r,.list (List.replicate r (I 0))),(r,.list (List.replicate r (.ai [I 0,.ai []]))),(0,.list []),(0,.list []),(0,.list []),(0,.list []),(0,.list [])]
theorem Hu {k ak:Nat} {aK:Str} {r:Nat} (h:r<4):CQ 9 k (Bm ak aK (abcd r)) 0 [] []=(19,mw 9 k ak aK (.ofNat 2) (.ofNat 2) (.ofNat 16) (.ofNat 0) (.ofNat 0),Wg r):=by refine o7 h ?_ ?_ ?_ ?_<;>kernel_rfl
theorem Ht {Q:Rg} {ak:Nat} {aK:Str} {r:Nat} (hr:r<4):ym Q (Ry Q ak aK r)∧yD (Ry Q ak aK r) ak (aK,r) (.aj 9 (Q.n+2)):=by have P:=lg 9 (c5 420) (Q.n+2) (is:=Bm ak aK (abcd r)) (l7 (w:=c5 420) (k:=Q.n+2) (as:=[]) (T:= .aq (Q.n+1) ⟨0,.list (abcd r)⟩ (.aq Q.n ⟨0,.list (abcd 4)⟩ Q.t)) fun Z Z=>rfl);rw [Hu hr] at P;refine ⟨⟨Nat.le_add_right _ _,fun j hj=>(P.old j (Jc hj)).trans (by rw [TC.ay,aS (Jd hj),TC.ay,aS (HE hj)])⟩,Q.n+2,_,rfl,by show Q.n+2+9<Q.n+12;exact Nz,P.bX,nine ⟨_,P.ls 0 _ _ rfl⟩ ⟨_,P.ls 1 _ _ rfl⟩ ⟨_,P.ls 2 _ _ rfl⟩ ⟨_,P.ls 3 _ _ rfl⟩ ⟨_,P.ls 4 _ _ rfl⟩ ⟨_,P.ls 5 _ _ rfl⟩ ⟨_,P.ls 6 _ _ rfl⟩ ⟨_,P.ls 7 _ _ rfl⟩ ⟨_,P.ls 8 _ _ rfl⟩⟩
def HO (C:Rg) (ak:Nat):Prop:=∃w0 w1 w2 my B so fg mb cc fin,C.t.get 8=some (xM w0)∧C.t.get 1=some ⟨w1,.list my⟩∧aL my ak=some (.aj 1 B)∧C.t.get B=some (n9 w2 1 B ak (d8 ak) so fg mb cc fin)
section
variable {n:Nat} {E C D F K L J R S Q U A:Rg} {z:zP} {a:Ab} {c t i:Nat}
theorem pN {ns:zD} {k v:DV} (h:eZ (aY ns k)=some true):lz ns k v=ns:=by unfold lz;rw [h]
theorem pM {ns:zD} {k v:DV} (h:eZ (aY ns k)=some false):lz ns k v=aM ns k v:=by unfold lz;rw [h]
theorem Hs {e:Ex} {h:Rg} (O:iW a e h):e.ty.length=64+a.ts.length:=by refine az O.ty fun x hx g=>?_;rw [hx,fO,g.1];rfl
theorem Ub (H:eY a D Q) (M:HO C (t+1)) (B:dN c a) (Y:c≤8) (Z:t<55) (V:pH z E C F K L J R S U A (eO a 5 (t+1) i)):eX z E C D F K L J R S Q U A n 5 (t+1) i:=by
 refine az H fun e X O=>?_;obtain ⟨w0,w1,w2,my,BB,so,fg,mb,cc,fin,m0,u,s,q⟩:=M;refine aA (cy (j:=0) X aD) fun v0 q0=>aA (cy (j:=1) X aD) fun w3 p=>aA (cy (j:=3) X aD) fun w4 o=>aA (cy (j:=13) X aD) fun v1 m=>aA (cy (j:=10) X aD) fun w5 l=>?_;have d:=Hs O;have hb:=B.ts;have g:=B.ns;obtain ⟨r,y⟩:∃r,i%4=r:=⟨_,rfl⟩
 have hr:r<4:=Jg y;have N:=Ht (Q:=Q) (ak:=e.ty.length) (aK:=d8 (t+1)) hr;have f:iW {a with ts:=a.ts++[(d8 (t+1),r)]} {e with ty:=e.ty++[.aj 9 (Q.n+2)]} (Ry Q e.ty.length (d8 (t+1)) r):=by have G:=O.rV N.1;refine az G.ty fun x hx g=>?_;exact ⟨G.rows,G.ki,⟨x++[.aj 9 (Q.n+2)],by rw [hx,List.append_assoc],g.app (d▸N.2)⟩,G.fl,G.ml⟩
 have X':bZ VS jg (lA {a with ts:=a.ts++[(d8 (t+1),r)]} {e with ty:=e.ty++[.aj 9 (Q.n+2)]}) (.aq 13 ⟨v1+1,.list (e.ty++[.aj 9 (Q.n+2)])⟩ D.t):=c9 (j:=13) X aD rfl rfl rfl (dK cg) rfl;refine aA (iz (x:= .ai [I 0,.str (d8 (t+1)),I r]) ⟨_,_,_,rfl⟩ g.1) fun b hd=>?_;have e0:eO a 5 (t+1) i=({a with ts:=a.ts++[(d8 (t+1),r)],ns:=lz a.ns (.ai [I 0,.str (d8 (t+1)),I r]) (I e.ty.length)},I e.ty.length):=by rw [d,←y];rfl
 rw [e0] at V;have hi:some (I (i%4))=some (I r):=by rw [y]
 cases b with
 |true=>
  rw [pN hd] at V;have V:=(V ⟨D.n,_⟩ _ ⟨_,X',⟨f.rows,f.ki,f.ty,f.fl,f.ml⟩⟩).1;revert hi hd V;refine o7 hr (fun hi hd V=>?_) (fun hi hd V=>?_) (fun hi hd V=>?_) fun hi hd V=>?_
  ·exact EN m0 u (aB (cM Z)) s q q0 p o O.k2 m (aB (iG d Y hb)) l hi hd V
  ·exact EP m0 u (aB (cM Z)) s q q0 p o O.k2 m (aB (iG d Y hb)) l hi hd V
  ·exact ES m0 u (aB (cM Z)) s q q0 p o O.k2 m (aB (iG d Y hb)) l hi hd V
  ·exact EU m0 u (aB (cM Z)) s q q0 p o O.k2 m (aB (iG d Y hb)) l hi hd V
 |false=>
  rw [pM hd] at V;have X2:bZ VS jg (lA {a with ts:=a.ts++[(d8 (t+1),r)],ns:=aM a.ns (.ai [I 0,.str (d8 (t+1)),I r]) (I e.ty.length)} {e with ty:=e.ty++[.aj 9 (Q.n+2)]}) (.aq 10 ⟨w5+1,.dict .n (aM a.ns (.ai [I 0,.str (d8 (t+1)),I r]) (I e.ty.length))⟩ (.aq 13 ⟨v1+1,.list (e.ty++[.aj 9 (Q.n+2)])⟩ D.t)):=c9 (j:=10) X' aD rfl rfl rfl (dK cg) rfl;have V:=(V ⟨D.n,_⟩ _ ⟨_,X2,⟨f.rows,f.ki,f.ty,f.fl,f.ml⟩⟩).1;revert hi hd V;refine o7 hr (fun hi hd V=>?_) (fun hi hd V=>?_) (fun hi hd V=>?_) fun hi hd V=>?_
  ·exact EM m0 u (aB (cM Z)) s q q0 p o O.k2 m (aB (iG d Y hb)) l hi hd (aB (q7 g.2 Y)) V
  ·exact EO m0 u (aB (cM Z)) s q q0 p o O.k2 m (aB (iG d Y hb)) l hi hd (aB (q7 g.2 Y)) V
  ·exact ER m0 u (aB (cM Z)) s q q0 p o O.k2 m (aB (iG d Y hb)) l hi hd (aB (q7 g.2 Y)) V
  ·exact ET m0 u (aB (cM Z)) s q q0 p o O.k2 m (aB (iG d Y hb)) l hi hd (aB (q7 g.2 Y)) V
theorem gc (H:eY a D Q) (M:HO C (t+1)) (B:dN c a) (Y:c≤8) (Z:t<55) {op:Nat} (ho:op<12) (hg:op=1∨op=2→t+1∈i6) (V:pH z E C F K L J R S U A (eO a op (t+1) i)):eX z E C D F K L J R S Q U A n op (t+1) i:=by revert hg V;exact jV ho (fun u V=>T7 H B Y Z V) (fun hg V=>T8 H B Y Z (hg (.inl rfl)) V) (fun hg V=>T9 H B Y Z (hg (.inr rfl)) V) (fun u V=>T_ H B Y Z V) (fun u V=>Ua H B Y Z V) (fun u V=>Ub H M B Y Z V) (fun u V=>Uc H B Y V) (fun u V=>Ud H B Y Z V) (fun u V=>Ue H B Y Z V) (fun u V=>Ug H B Y Z V) (fun u V=>MB H B Y Z V) (fun u V=>MC H B Y Z V)
end
end
section
noncomputable def bL:List Nat:=[12,25,38,51,64,77,90,103,117,130,143,156,169,182,195,208,221,234,247,260,273,286,299,312,325,338,351,364,377,390,403,416,429,442,455,469,483,497,510,524,537,551,564,577,590,604,618,633,647,660,673,686,699,715,729]
noncomputable def bT (t:Nat):Nat:=match aL bL (t -1) with
 |some b=>b
 |none=>0
theorem yO:((List.range 55).all fun s=>Nat.ble 12 (bT (s+1))&&(List.range 55).all fun t=>Nat.beq s t||(Nat.blt (bT (s+1)+9) (bT (t+1))||Nat.blt (bT (t+1)+9) (bT (s+1))))=true:=by kernel_rfl
theorem mP {s:Nat} (h:s<55):12≤bT (s+1):=af (gh yO s (nV h)) fun x Z=>pG x
theorem H7 {s t:Nat} (h:s<55) (N:t<55) (n:s≠t):bT (s+1)+9<bT (t+1)∨bT (t+1)+9<bT (s+1):=af (gh yO s (nV h)) fun Z x=>c7 (gh x t (nV N)) (fun e=>absurd (ie e) n) fun e=>c7 e (fun e=> .inl (dD e)) fun e=> .inr (dD e)
noncomputable def mo (j:Nat):Nat:=if j=1 then 1 else if j≤6 then j+3 else j -5
theorem FY:((List.range 10).all fun j=>(List.range 10).all fun k=>Nat.beq j 0||(Nat.beq k 0||(!Nat.beq (mo j) (mo k)||Nat.beq j k)))=true:=by kernel_rfl
theorem FZ {j k:Nat} (h1:1≤j) (h2:j≤9) (h3:1≤k) (h4:k≤9) (e:mo j=mo k):j=k:=by have a:=gh (gh FY j (nV (Nat.lt_succ_of_le h2))) k (nV (Nat.lt_succ_of_le h4));exact c7 a (fun z=>absurd h1 (by rw [ie z];exact Nat.not_succ_le_zero 0)) fun a=>c7 a (fun z=>absurd h3 (by rw [ie z];exact Nat.not_succ_le_zero 0)) fun a=>c7 a (fun z=>by rw [e,Nat.beq_refl] at z;exact nof z) ie
def VM (x:Ix):Prop:=match x.1 with
 |0=>x.2∈[1,2,3,5,7,8]
 |t+1=>t<55∧x.2≤9
noncomputable def lP (x:Ix):Nat:=match x.1 with
 |0=>x.2
 |t+1=>bT (t+1)+x.2
noncomputable def KJ (a:Ab) (S:zL) (j:Nat):CB:=[.list [],.list S,.dict .n a.ns,.list a.as,.list [],.list (a.fs.map I),.list [],.list (a.ms.map I),(xM 0).b][j]?.getD (.list [])
noncomputable def nS (a:Ab) (S:zL) (x:Ix):CB:=match x.1 with
 |0=>KJ a S x.2
 |t+1=>match x.2 with
  |0=> .dict .s (xV 1 (bT (t+1)) (t+1) (d8 (t+1)) (fq (t+1)) (m7 (t+1)) (ia (t+1)) (a.cc (t+1)) (a.fin (t+1)))
  |j+1=> .list (a.l (t+1) (mo (j+1)))
theorem Fp {x y:Ix} (hx:VM x) (r:VM y) (h:y≠x):lP y≠lP x:=by
 obtain ⟨t,j⟩:=x;obtain ⟨s,k⟩:=y;have sp:∀{j:Nat},j∈[1,2,3,5,7,8]→j≤8:=fun {j} h=>by simp only [List.mem_cons,List.not_mem_nil,or_false] at h;exact NL h
 cases t with
 |zero=>cases s with
  |zero=>exact fun e=>h (congrArg (Prod.mk 0) e)
  |succ s=>have h1:=sp hx;have h2:s<55∧k≤9:=r;have:=mP h2.1;show bT (s+1)+k≠j;exact NO h2 this h1
 |succ t=>cases s with
  |zero=>have h1:=sp r;have h2:t<55∧j≤9:=hx;have:=mP h2.1;show k≠bT (t+1)+j;exact NQ h2 this h1
  |succ s=>
   have h1:t<55∧j≤9:=hx;have h2:s<55∧k≤9:=r;show bT (s+1)+k≠bT (t+1)+j;by_cases q:s=t
   ·subst q
    exact fun e=>h (by rw [show k=j by exact NR e])
   ·have:=H7 h2.1 h1.1 q
    exact NS this h1 h2
section
variable {a:Ab} {S:zL} {g:TC} {t j v:Nat} {x:zL}
theorem dZ (h:bZ VM lP (nS a S) g) (N:t<55) (hj:j<9):bZ VM lP (nS (a.bz (t+1) (mo (j+1)) x) S) (.aq (bT (t+1)+(j+1)) ⟨v,.list x⟩ g):=
 h.up (x:=(t+1,j+1)) (fun y r q=>Fp (show VM (t+1,j+1) from ⟨N,hj⟩) r q) (fun y r q=>by
  obtain ⟨s,k⟩:=y;cases s with
  |zero=>rfl
  |succ s=>cases k with
   |zero=>rfl
   |succ k=>have hk:s<55∧k+1≤9:=r;show CB.list (if s+1=t+1∧mo (k+1)=mo (j+1) then x else a.l (s+1) (mo (k+1)))=_;rw [aS fun z=>q (by rw [z.1,FZ (NU hk) hk.2 (Ji hj) (Jj hj) z.2])];rfl) (by
  show CB.list (if t+1=t+1∧mo (j+1)=mo (j+1) then x else _)=_;rw [bk ⟨rfl,rfl⟩])
theorem vL {cc fin:Int} (h:bZ VM lP (nS a S) g) (N:t<55):bZ VM lP (nS {a with cc:=upd a.cc (t+1) cc,fin:=upd a.fin (t+1) fin} S) (.aq (bT (t+1)) ⟨v,.dict .s (xV 1 (bT (t+1)) (t+1) (d8 (t+1)) (fq (t+1)) (m7 (t+1)) (ia (t+1)) cc fin)⟩ g):=
 h.up (x:=(t+1,0)) (fun y r q=>Fp (show VM (t+1,0) from ⟨N,Nat.zero_le _⟩) r q) (fun y r q=>by
  obtain ⟨s,k⟩:=y;cases s with
  |zero=>rfl
  |succ s=>cases k with
   |zero=>have hs:¬s+1=t+1:=fun z=>q (by rw [z]);show CB.dict .s (xV 1 (bT (s+1)) (s+1) (d8 (s+1)) (fq (s+1)) (m7 (s+1)) (ia (s+1)) (if s+1=t+1 then cc else a.cc (s+1)) (if s+1=t+1 then fin else a.fin (s+1)))=_;rw [aS hs,aS hs];rfl
   |succ k=>rfl) (by
  show CB.dict .s (xV 1 (bT (t+1)) (t+1) (d8 (t+1)) (fq (t+1)) (m7 (t+1)) (ia (t+1)) (if t+1=t+1 then cc else a.cc (t+1)) (if t+1=t+1 then fin else a.fin (t+1)))=_;rw [bk rfl,bk rfl])
theorem gP {a':Ab} {HF:zL} {b:CB} (h:bZ VM lP (nS a S) g) (hj:j∈[1,2,3,5,7,8]) (hl:a'.l=a.l) (f:a'.cc=a.cc) (hf:a'.fin=a.fin) (hs:∀k,k≠j→KJ a' HF k=KJ a S k) (hb:KJ a' HF j=b):bZ VM lP (nS a' HF) (.aq j ⟨v,b⟩ g):=
 h.up (x:=(0,j)) (fun y r q=>Fp (show VM (0,j) from hj) r q) (fun y r q=>by
  obtain ⟨s,k⟩:=y;cases s with
  |zero=>exact hs k fun z=>q (by rw [z])
  |succ s=>cases k with
   |zero=>show CB.dict .s (xV 1 (bT (s+1)) (s+1) (d8 (s+1)) (fq (s+1)) (m7 (s+1)) (ia (s+1)) (a'.cc (s+1)) (a'.fin (s+1)))=_;rw [f,hf];rfl
   |succ k=>show CB.list (a'.l (s+1) (mo (k+1)))=_;rw [hl];rfl) hb
end
def yC (h:Rg) (ak:Nat) (p:Str×Nat) (d:DV):Prop:=∃y v,d= .aj 10 y∧y+9<h.n∧h.t.get y=some (n9 v 10 y ak p.1 (.ofNat 2) (.ofNat 2) (.ai [I 2,I 2,.ai []]) (.ofNat 0) (.ofNat 0))∧∀j,1≤j→j≤9→∃v,h.t.get (y+j)=some ⟨v,.list (Lw p.2 (mo j))⟩
theorem yC.rV {h h':Rg} {ak:Nat} {p:Str×Nat} {d:DV} (x:yC h ak p d) (g:ym h h'):yC h' ak p d:=by
 refine tZ x fun y v e r h1 h2=>⟨y,v,e,tM r g.1,(g.2 y (Sg r)).trans h1,fun j a b=>?_⟩
 refine aA (h2 j a b) fun u hu=>⟨u,(g.2 (y+j) (Sh r a b)).trans hu⟩
noncomputable def Eb:List DV:=(List.range 64).map fun t=>if 1≤t∧t≤55 then .aj 1 (bT t) else .none
def Hy (a:Ab) (S:zL) (h:Rg):Prop:=∃x,S=Eb++x∧iw h yC a.ts x
def dz (a:Ab) (g h:Rg):Prop:=∃S,bZ VM lP (nS a S) g.t∧Hy a S h
theorem Ak {x:zL} {t:Nat} (N:t<55):aL (Eb++x) (t+1)=some (.aj 1 (bT (t+1))):=by rw [aH,uR (by simp [Eb];exact FN N)];unfold Eb;rw [List.getElem?_map,List.getElem?_range (FN N)];show some (if 1≤t+1∧t+1≤55 then _ else _)=_;rw [bk ⟨by exact QJ N,by exact QK N⟩]
theorem uC {a:Ab} {S:zL} {h:Rg} (O:Hy a S h):S.length=64+a.ts.length:=by refine az O fun x hx hn=>?_;rw [hx,fO,hn.1];rfl
section
variable {a:Ab} {S:zL} {g:TC} {h:Rg} {t j c i:Nat}
theorem cX {R:Prop} (X:bZ VM lP (nS a S) g) (O:Hy a S h) (N:t<55) (k:∀v0 v1 w,g.get 8=some (xM v0)→g.get 1=some ⟨v1,.list S⟩→aL S (t+1)=some (.aj 1 (bT (t+1)))→g.get (bT (t+1))=some (n9 w 1 (bT (t+1)) (t+1) (d8 (t+1)) (fq (t+1)) (m7 (t+1)) (ia (t+1)) (a.cc (t+1)) (a.fin (t+1)))→R):R:=by refine aA (X (0,8) (by simp [VM])) fun v0 q0=>aA (X (0,1) (by simp [VM])) fun v1 Z=>aA (X (t+1,0) ⟨N,Nat.zero_le _⟩) fun w Y=>az O fun x hx u=>k v0 v1 w q0 Z (hx▸Ak N) Y
theorem eK (X:bZ VM lP (nS a S) g) (N:t<55) (hj:j<9):∃v,g.get (bT (t+1)+(j+1))=some ⟨v,.list (a.l (t+1) (mo (j+1)))⟩:=X (t+1,j+1) ⟨N,hj⟩
theorem dJ (X:bZ VM lP (nS a S) g) (hj:j∈[1,2,3,5,7,8]):∃v,g.get j=some ⟨v,KJ a S j⟩:=X (0,j) hj
end
section
variable {n:Nat} {E C D F G K J L M Q U A:Rg} {V:zP} {a:Ab} {c t i:Nat}
abbrev pL (V:zP) (E D F G K J L M Q A:Rg) (x:Ab×DV):Prop:=∀g h,dz x.1 g h→V (.v x.2) [E,g,D,F,G,K,J,L,M,Q,h,A] []
theorem Ul (H:dz a C U) (B:dN c a) (f:c≤8) (N:t<55) (T:pL V E D F G K J L M Q A (eO a 0 (t+1) i)):gj V E C D F G K J L M Q U A n 0 (t+1) i:=by
 refine az H fun S X O=>cX X O N fun v0 v1 w q0 Z Y o=>aA (eK (j:=0) X N aD) fun v3 m=>?_;have hm:i%2=0∨i%2=1:=QL;obtain ⟨d,hd,pd⟩:∃d,aL [I 7,I 13] (i%2)=some d∧Pl d:=by rcases hm with q|q<;>rw [q]<;>exact cJ _ rfl rfl
 have e0:eO a 0 (t+1) i=(a.bz (t+1) 1 (once (a.l (t+1) 1) d),I 0):=by show (match aL [I 7,I 13] (i%2) with|some d=>(a.bz (t+1) 1 (once (a.l (t+1) 1) d),I 0)|none=>(a,I 0))=_;rw [hd]
 rw [e0] at T;revert T;refine e9 (P:=fun x=>pL V E D F G K J L M Q A (a.bz (t+1) 1 x,I 0)→_) pd (B.pl _ _) (fun hb T=>?_) fun hb T=>?_
 ·rw [cV] at T
  exact Rp q0 Z (aB (cM N)) Y o (aB Lr) hd m hb (T C U H)
 ·exact Ro q0 Z (aB (cM N)) Y o (aB Lr) hd m hb (aB (gT B f)) (T ⟨C.n,_⟩ U ⟨S,dZ (j:=0) X N aD,O⟩)
theorem Us (H:dz a C U) (B:dN c a) (f:c≤8) (N:t<55) (T:pL V E D F G K J L M Q A (eO a 7 (t+1) i)):gj V E C D F G K J L M Q U A n 7 (t+1) i:=by
 refine az H fun S X O=>cX X O N fun v0 v1 w q0 Z Y o=>aA (eK (j:=4) X N aD) fun v3 m=>?_;revert T;refine e9 (P:=fun x=>pL V E D F G K J L M Q A (a.bz (t+1) 8 x,I 0)→_) rfl (B.pl _ _) (fun hb T=>?_) fun hb T=>?_
 ·rw [cV] at T
  exact Rr q0 Z (aB (cM N)) Y o m hb (T C U H)
 ·exact Rq q0 Z (aB (cM N)) Y o m hb (aB (gT B f)) (T ⟨C.n,_⟩ U ⟨S,dZ (j:=4) X N aD,O⟩)
theorem Ut (H:dz a C U) (B:dN c a) (f:c≤8) (N:t<55) (T:pL V E D F G K J L M Q A (eO a 8 (t+1) i)):gj V E C D F G K J L M Q U A n 8 (t+1) i:=by
 refine az H fun S X O=>cX X O N fun v0 v1 w q0 Z Y o=>aA (eK (j:=5) X N aD) fun v3 m=>?_;revert T;refine e9 (P:=fun x=>pL V E D F G K J L M Q A (a.bz (t+1) 9 x,I 0)→_) rfl (B.pl _ _) (fun hb T=>?_) fun hb T=>?_
 ·rw [cV] at T
  exact Ru q0 Z (aB (cM N)) Y o m hb (T C U H)
 ·exact Rt q0 Z (aB (cM N)) Y o m hb (aB (gT B f)) (T ⟨C.n,_⟩ U ⟨S,dZ (j:=5) X N aD,O⟩)
theorem Uu (H:dz a C U) (B:dN c a) (f:c≤8) (N:t<55) (T:pL V E D F G K J L M Q A (eO a 9 (t+1) i)):gj V E C D F G K J L M Q U A n 9 (t+1) i:=by
 refine az H fun S X O=>cX X O N fun v0 v1 w q0 Z Y o=>aA (eK (j:=3) X N aD) fun v3 m=>?_;revert T;refine e9 (P:=fun x=>pL V E D F G K J L M Q A (a.bz (t+1) 7 x,I 0)→_) rfl (B.pl _ _) (fun hb T=>?_) fun hb T=>?_
 ·rw [cV] at T
  exact Rw q0 Z (aB (cM N)) Y o m hb (T C U H)
 ·exact Rv q0 Z (aB (cM N)) Y o m hb (aB (gT B f)) (T ⟨C.n,_⟩ U ⟨S,dZ (j:=3) X N aD,O⟩)
theorem Um (H:dz a C U) (B:dN c a) (N:t<55) (hg:t+1∈i6) (T:pL V E D F G K J L M Q A (eO a 1 (t+1) i)):gj V E C D F G K J L M Q U A n 1 (t+1) i:=by refine az H fun S X O=>cX X O N fun v0 v1 w q0 Z Y o=>aA (eK (j:=8) X N aD) fun v3 m=>WV q0 Z (aB (cM N)) Y o m (d_ (List.length_pos_iff.mpr (B.g3 _ hg).2)) (T ⟨C.n,_⟩ U ⟨S,dZ (j:=8) X N aD,O⟩)
theorem Un (H:dz a C U) (B:dN c a) (N:t<55) (hg:t+1∈i6) (T:pL V E D F G K J L M Q A (eO a 2 (t+1) i)):gj V E C D F G K J L M Q U A n 2 (t+1) i:=by refine az H fun S X O=>cX X O N fun v0 v1 w q0 Z Y o=>aA (eK (j:=7) X N aD) fun v3 m=>WW q0 Z (aB (cM N)) Y o m (d_ (List.length_pos_iff.mpr (B.g3 _ hg).1)) (T ⟨C.n,_⟩ U ⟨S,dZ (j:=7) X N aD,O⟩)
theorem Ur (H:dz a C U) (B:dN c a) (f:c≤8) (N:t<55) (T:pL V E D F G K J L M Q A (eO a 6 (t+1) i)):gj V E C D F G K J L M Q U A n 6 (t+1) i:=by refine az H fun S X O=>cX X O N fun v0 v1 w q0 Z Y o=>aA (dJ (j:=3) X aD) fun v3 m=>?_;have:=B.as;exact WZ q0 Z (aB (cM N)) Y m (aB (I_ this f)) (aB (by rw [fO];show a.as.length+1≤5000;exact Ja this f)) (T ⟨C.n,_⟩ U ⟨S,gP (j:=3) (a':={a with as:=a.as++[oZ]}) (HF:=S) X aD rfl rfl rfl (dK cg) rfl,O⟩)
theorem sd {α:Type} {l:List α} {x:α}:eF (Int.ofNat (l++[x]).length) (Int.ofNat 1)=Int.ofNat l.length:=by rw [mj,fO];simp only [Int.ofNat_eq_natCast,List.length_cons,List.length_nil];exact N3
theorem su {α:Type} {l:List α} {x:α}:aL (l++[x]) ((l++[x]).length -1)=some x:=by rw [show (l++[x]).length -1=l.length by rw [fO];rfl];exact vZ
theorem Uo (H:dz a C U) (B:dN c a) (f:c≤8) (N:t<55) (T:pL V E D F G K J L M Q A (eO a 3 (t+1) i)):gj V E C D F G K J L M Q U A n 3 (t+1) i:=by
 refine az H fun S X O=>cX X O N fun v0 v1 w q0 Z Y o=>aA (eK (j:=1) X N aD) fun v3 m=>aA (dJ (j:=5) X aD) fun v4 q5=>?_;have hb:=B.fs;have hg:=mP N;have hm:(a.fs.map I).length=a.fs.length:=List.length_map _;have M2:=B.l (t+1) 5;have e0:eO a 3 (t+1) i=({a.bz (t+1) 5 (a.l (t+1) 5++[.int (eF (.ofNat (a.fs.map I++[I (t+1)]).length) (.ofNat 1))]) with fs:=a.fs++[t+1]},.int (eF (.ofNat (a.fs.map I++[I (t+1)]).length) (.ofNat 1))):=by rw [sd,hm];rfl
 rw [e0] at T;exact WX q0 Z (aB (cM N)) Y q5 (aB (Jb hb hm f)) (N4 hg) o (N5 hg) m (aB (by rw [fO,hm];show a.fs.length+1≤5000;exact N6 hb hm f)) (aB (gT B f)) (aB (by rw [fO];show (a.l (t+1) 5).length+1≤5000;exact Jl M2 f)) (d_ (by rw [fO];exact Nat.succ_pos _)) su (T ⟨C.n,_⟩ U ⟨S,dZ (a:={a with fs:=a.fs++[t+1]}) (j:=1) (gP (j:=5) (a':={a with fs:=a.fs++[t+1]}) (HF:=S) X aD rfl rfl rfl (dK cg) (by show CB.list ((a.fs++[t+1]).map I)=_;rw [List.map_append];rfl)) N aD,O⟩)
theorem Up (H:dz a C U) (B:dN c a) (f:c≤8) (N:t<55) (T:pL V E D F G K J L M Q A (eO a 4 (t+1) i)):gj V E C D F G K J L M Q U A n 4 (t+1) i:=by
 refine az H fun S X O=>cX X O N fun v0 v1 w q0 Z Y o=>aA (eK (j:=2) X N aD) fun v3 m=>aA (dJ (j:=7) X aD) fun v4 q5=>?_;have hb:=B.ms;have hg:=mP N;have hm:(a.ms.map I).length=a.ms.length:=List.length_map _;have M2:=B.l (t+1) 6;have e0:eO a 4 (t+1) i=({a.bz (t+1) 6 (a.l (t+1) 6++[.int (eF (.ofNat (a.ms.map I++[I (t+1)]).length) (.ofNat 1))]) with ms:=a.ms++[t+1],cc:=upd a.cc (t+1) (eF (.ofNat (a.ms.map I++[I (t+1)]).length) (.ofNat 1))},.int (eF (.ofNat (a.ms.map I++[I (t+1)]).length) (.ofNat 1))):=by rw [sd,hm];rfl
 rw [e0] at T;have X3:=vL (v:=w+1) (cc:=eF (.ofNat (a.ms.map I++[I (t+1)]).length) (.ofNat 1)) (fin:=a.fin (t+1)) (dZ (v:=v3+1) (x:=a.l (t+1) 6++[.int (eF (.ofNat (a.ms.map I++[I (t+1)]).length) (.ofNat 1))]) (a:={a with ms:=a.ms++[t+1]}) (j:=2) (gP (j:=7) (v:=v4+1) (b:= .list (a.ms.map I++[I (t+1)])) (a':={a with ms:=a.ms++[t+1]}) (HF:=S) X aD rfl rfl rfl (dK cg) (by show CB.list ((a.ms++[t+1]).map I)=_;rw [List.map_append];rfl)) N aD) N;have X4:bZ VM lP (nS {a.bz (t+1) 6 (a.l (t+1) 6++[.int (eF (.ofNat (a.ms.map I++[I (t+1)]).length) (.ofNat 1))]) with ms:=a.ms++[t+1],cc:=upd a.cc (t+1) (eF (.ofNat (a.ms.map I++[I (t+1)]).length) (.ofNat 1)),fin:=upd a.fin (t+1) (a.fin (t+1))} S) _:=X3;rw [j0] at X4;exact WY q0 Z (aB (cM N)) Y q5 (aB (Si hb hm f)) (FA hg) o (N8 hg) m (aB (by rw [fO,hm];show a.ms.length+1≤5000;exact N9 hb hm f)) (aB (gT B f)) (aB (by rw [fO];show (a.l (t+1) 6).length+1≤5000;exact Jl M2 f)) (d_ (by rw [fO];exact Nat.succ_pos _)) su (T ⟨C.n,_⟩ U ⟨S,X4,O⟩)
end
end
section
theorem gB {l:List Nat} {k o:Nat} (e:l[k]?=some o):aL (l.map I) k=some (I o):=by rw [aH,List.getElem?_map,e];rfl
theorem bH {b:Bool} (h:b=false):some b=some false:=congrArg some h
theorem aE {n m:Nat}:(n<m→(some !n.blt m)=some false)∧(¬n<m→(some !n.blt m)=some true):=by rw [blt_iff];exact ⟨fun h=>by rw [gH h];rfl,fun h=>by rw [nU h];rfl⟩
section
variable {n:Nat} {E C D F G K J L M Q U A:Rg} {z:zP} {a:Ab} {c t i:Nat}
theorem MG (H:dz a C U) (B:dN c a) (V:c≤8) (S:t<55) (R:pL z E D F G K J L M Q A (eO a 10 (t+1) i)):gj z E C D F G K J L M Q U A n 10 (t+1) i:=by
 refine az H fun Y X O=>cX X O S fun v0 v1 v2 q0 d Z p=>aA (eK (j:=1) X S aD) fun v3 u=>aA (dJ (j:=5) X aD) fun v4 q5=>?_;have hb:=B.fs;have hg:=mP S;have hm:(a.fs.map I).length=a.fs.length:=List.length_map _;have sp:∀{a:Ab} {g:TC},bZ VM lP (nS a Y) g→bZ VM lP (nS {a with fs:=a.fs.set (i%65) (t+1)} Y) (.aq 5 ⟨v4+1,.list ((a.fs.map I).set (i%65) (I (t+1)))⟩ g):=fun {a g} X=>gP (j:=5) X aD rfl rfl rfl (dK cg) (by show CB.list ((a.fs.set (i%65) (t+1)).map I)=_;rw [List.map_set]);revert R;refine fY (P:=fun x=>pL z E D F G K J L M Q A x→_) hb.1 (fun k0 R=>?_) (fun k0 k1 R=>?_) (fun o k0 k1 y o0 o1 R=>?_) (fun k0 k1 y R=>?_) fun k0 k1 y o0 R=>?_
 ·exact K6 q0 d (aB (cM S)) Z (by rw [k0];rfl) (R C U H)
 ·exact KW q0 d (aB (cM S)) Z (bH (bU k0)) (aE.2 k1) (R C U H)
 ·exact K5 q0 d (aB (cM S)) Z (bH (bU k0)) (aE.1 k1) q5 (aB (xF k1)) (gB y) (by rw [bU (Ne.symm o0),bU (Ne.symm o1)];rfl) (R C U H)
 ·exact K0 q0 d (aB (cM S)) Z (bH (bU k0)) (aE.1 k1) q5 (aB (xF k1)) (gB y) rfl rfl p u (aB (gT B V)) (NH hg) (NI hg) (d_ (Cv hb k1 hm V)) (R ⟨C.n,_⟩ U ⟨Y,sp (dZ (j:=1) X S aD),O⟩)
 ·exact K4 q0 d (aB (cM S)) Z (bH (bU k0)) (aE.1 k1) q5 (aB (xF k1)) (gB y) (by rw [bU (Ne.symm o0),nY];rfl) (bH (bU o0)) (d_ (Cv hb k1 hm V)) (R ⟨C.n,_⟩ U ⟨Y,sp X,O⟩)
theorem MH (H:dz a C U) (B:dN c a) (V:c≤8) (S:t<55) (R:pL z E D F G K J L M Q A (eO a 11 (t+1) i)):gj z E C D F G K J L M Q U A n 11 (t+1) i:=by
 refine az H fun Y X O=>cX X O S fun v0 v1 v2 q0 d Z p=>aA (eK (j:=2) X S aD) fun v3 u=>aA (dJ (j:=7) X aD) fun v4 q5=>?_;have hb:=B.ms;have hg:=mP S;have hm:(a.ms.map I).length=a.ms.length:=List.length_map _;have sp:∀{a:Ab} {g:TC},bZ VM lP (nS a Y) g→bZ VM lP (nS {a with ms:=a.ms.set (254+i%3) (t+1)} Y) (.aq 7 ⟨v4+1,.list ((a.ms.map I).set (254+i%3) (I (t+1)))⟩ g):=fun {a g} X=>gP (j:=7) X aD rfl rfl rfl (dK cg) (by show CB.list ((a.ms.set (254+i%3) (t+1)).map I)=_;rw [List.map_set]);have td:∀{a':Ab} {g:TC} {v:Nat} {f:Int},bZ VM lP (nS a' Y) g→bZ VM lP (nS {a' with fin:=upd a'.fin (t+1) f} Y) (.aq (bT (t+1)) ⟨v,.dict .s (xV 1 (bT (t+1)) (t+1) (d8 (t+1)) (fq (t+1)) (m7 (t+1)) (ia (t+1)) (a'.cc (t+1)) f)⟩ g):=fun {a' g v f} X=>by have:=vL (v:=v) (cc:=a'.cc (t+1)) (fin:=f) X S;rwa [j0] at this
 revert R;refine fY (P:=fun x=>pL z E D F G K J L M Q A x→_) hb.1 (fun k0 R=>?_) (fun k0 k1 R=>?_) (fun o k0 k1 y o0 o1 R=>?_) (fun k0 k1 y R=>?_) fun k0 k1 y o0 R=>?_
 ·exact absurd k0 (q8)
 ·exact K7 q0 d (aB (cM S)) Z (bH (bU k0)) (aE.2 k1) (R C U H)
 ·exact K_ q0 d (aB (cM S)) Z (bH (bU k0)) (aE.1 k1) q5 (aB (lG k1)) (gB y) (by rw [bU (Ne.symm o0),bU (Ne.symm o1)];rfl) (R C U H)
 ·exact K8 q0 d (aB (cM S)) Z (bH (bU k0)) (aE.1 k1) q5 (aB (lG k1)) (gB y) rfl rfl p u (aB (gT B V)) (NW hg) (NY hg) (d_ (Cw k1 hb hm V)) (d_ (Jk k1)) (FA hg) (R ⟨C.n,_⟩ U ⟨Y,td (sp (dZ (j:=2) (v:=v3+1) (x:=a.l (t+1) 6++[I (254+i%3)]) X S aD)),O⟩)
 ·exact K9 q0 d (aB (cM S)) Z (bH (bU k0)) (aE.1 k1) q5 (aB (lG k1)) (gB y) (by rw [bU (Ne.symm o0),nY];rfl) (bH (bU o0)) (d_ (Cw k1 hb hm V)) (d_ (Jk k1)) (FA hg) p (R ⟨C.n,_⟩ U ⟨Y,td (sp X),O⟩)
noncomputable abbrev Rc (U:Rg) (m ak:Nat) (aK:Str) (r:Nat):Rg:=⟨U.n+m,pz 10 mY (U.n+2) (AO (abcd r)) 0 (o9 ak aK) [] (.aq (U.n+2) ⟨0,.dict .s (o9 ak aK)⟩ (.aq (U.n+1) ⟨0,.list (abcd r)⟩ (.aq U.n ⟨0,.list (abcd 4)⟩ U.t)))⟩
noncomputable def Wh (r:Nat):List (Nat×CB):=[(0,.list []),(0,.list []),(0,.list []),(0,.list []),(0,.list []),(0,.list []),(r,.list (abcd r)),(r,.list (List.replicate r (I 0))),(r,.list (List.replicate r (.ai [I 0,.ai []])))]++List.replicate r (0,.dict .s [(sS "+",I 1),(sS "-",I 2)])
theorem Gp {k ak:Nat} {aK:Str} {r:Nat} (h:r<4):CQ 10 k (AO (abcd r)) 0 (o9 ak aK) []=(11,xV 10 k ak aK (.ofNat 2) (.ofNat 2) (.ai [I 2,I 2,.ai []]) (.ofNat 0) (.ofNat 0),Wh r):=by refine o7 h ?_ ?_ ?_ ?_<;>kernel_rfl
theorem Gn {U:Rg} {m ak:Nat} {aK:Str} {r:Nat} (hr:r<4) (hm:12≤m):ym U (Rc U m ak aK r)∧yC (Rc U m ak aK r) ak (aK,r) (.aj 10 (U.n+2)):=by have P:=lg 10 mY (U.n+2) (is:=AO (abcd r)) (l7 (w:=mY) (k:=U.n+2) (as:=o9 ak aK) (T:= .aq (U.n+1) ⟨0,.list (abcd r)⟩ (.aq U.n ⟨0,.list (abcd 4)⟩ U.t)) fun Z Z=>rfl);rw [Gp hr] at P;refine ⟨⟨Nat.le_add_right _ _,fun j hj=>(P.old j (Jc hj)).trans (by rw [TC.ay,aS (Jd hj),TC.ay,aS (HE hj)])⟩,U.n+2,_,rfl,by show U.n+2+9<U.n+m;exact N_ hm,P.bX,nine ⟨_,P.ls 0 _ _ rfl⟩ ⟨_,P.ls 1 _ _ rfl⟩ ⟨_,P.ls 2 _ _ rfl⟩ ⟨_,P.ls 3 _ _ rfl⟩ ⟨_,P.ls 4 _ _ rfl⟩ ⟨_,P.ls 5 _ _ rfl⟩ ⟨_,P.ls 6 _ _ rfl⟩ ⟨_,P.ls 7 _ _ rfl⟩ ⟨_,P.ls 8 _ _ rfl⟩⟩
theorem Uq (H:dz a C U) (B:dN c a) (V:c≤8) (S:t<55) (R:pL z E D F G K J L M Q A (eO a 5 (t+1) i)):gj z E C D F G K J L M Q U A n 5 (t+1) i:=by
 refine az H fun Y X O=>cX X O S fun v0 v1 v2 q0 d Z p=>aA (dJ (j:=2) X aD) fun v3 u=>?_;have hl:=uC O;have hb:=B.ts;have hn:=B.ns;have hg:=mP S;obtain ⟨r,hr'⟩:∃r,i%4=r:=⟨_,rfl⟩
 have hr:r<4:=Jg hr';have O':∀m,12≤m→Hy {a with ts:=a.ts++[(d8 (t+1),r)]} (Y++[.aj 10 (U.n+2)]) (Rc U m Y.length (d8 (t+1)) r):=fun m hm=>by have N:=Gn (U:=U) (ak:=Y.length) (aK:=d8 (t+1)) hr hm;refine az O fun x hx hn=>cJ (x++[.aj 10 (U.n+2)]) (by rw [hx,List.append_assoc]) ((hn.rV fun q=>q.rV N.1).app (hl▸N.2))
 have X':bZ VM lP (nS {a with ts:=a.ts++[(d8 (t+1),r)]} (Y++[.aj 10 (U.n+2)])) (.aq 1 ⟨v1+1,.list (Y++[.aj 10 (U.n+2)])⟩ C.t):=gP (j:=1) X aD rfl rfl rfl (dK cg) rfl;refine aA (iz (x:= .ai [I 0,.str (d8 (t+1)),I r]) ⟨_,_,_,rfl⟩ hn.1) fun b hd=>?_;have e0:eO a 5 (t+1) i=({a with ts:=a.ts++[(d8 (t+1),r)],ns:=lz a.ns (.ai [I 0,.str (d8 (t+1)),I r]) (I Y.length)},I Y.length):=by rw [hl,←hr'];rfl
 rw [e0] at R;have hi:some (I (i%4))=some (I r):=by rw [hr']
 cases b with
 |true=>
  rw [pN hd] at R;have R:=R ⟨C.n,_⟩ _ ⟨_,X',O' (12+r) (Nat.le_add_right _ _)⟩;revert hi hd R;refine o7 hr (fun hi hd R=>?_) (fun hi hd R=>?_) (fun hi hd R=>?_) fun hi hd R=>?_
  ·exact Hg q0 d (aB (cM S)) Z (aB (iG hl V hb)) p (r7 hg) u hi hd R
  ·exact Hi q0 d (aB (cM S)) Z (aB (iG hl V hb)) p (r7 hg) u hi hd R
  ·exact Hl q0 d (aB (cM S)) Z (aB (iG hl V hb)) p (r7 hg) u hi hd R
  ·exact Hp q0 d (aB (cM S)) Z (aB (iG hl V hb)) p (r7 hg) u hi hd R
 |false=>
  rw [pM hd] at R;have X2:bZ VM lP (nS {a with ts:=a.ts++[(d8 (t+1),r)],ns:=aM a.ns (.ai [I 0,.str (d8 (t+1)),I r]) (I Y.length)} (Y++[.aj 10 (U.n+2)])) (.aq 2 ⟨v3+1,.dict .n (aM a.ns (.ai [I 0,.str (d8 (t+1)),I r]) (I Y.length))⟩ (.aq 1 ⟨v1+1,.list (Y++[.aj 10 (U.n+2)])⟩ C.t)):=gP (j:=2) X' aD rfl rfl rfl (dK cg) rfl;have R:=R ⟨C.n,_⟩ _ ⟨_,X2,O' (12+r) (Nat.le_add_right _ _)⟩;revert hi hd R;refine o7 hr (fun hi hd R=>?_) (fun hi hd R=>?_) (fun hi hd R=>?_) fun hi hd R=>?_
  ·exact Hf q0 d (aB (cM S)) Z (aB (iG hl V hb)) p (r7 hg) u hi hd (aB (q7 hn.2 V)) R
  ·exact Hh q0 d (aB (cM S)) Z (aB (iG hl V hb)) p (r7 hg) u hi hd (aB (q7 hn.2 V)) R
  ·exact Hj q0 d (aB (cM S)) Z (aB (iG hl V hb)) p (r7 hg) u hi hd (aB (q7 hn.2 V)) R
  ·exact Ho q0 d (aB (cM S)) Z (aB (iG hl V hb)) p (r7 hg) u hi hd (aB (q7 hn.2 V)) R
theorem gt (H:dz a C U) (B:dN c a) (V:c≤8) (S:t<55) {op:Nat} (ho:op<12) (hg:op=1∨op=2→t+1∈i6) (R:pL z E D F G K J L M Q A (eO a op (t+1) i)):gj z E C D F G K J L M Q U A n op (t+1) i:=by revert hg R;exact jV ho (fun Z R=>Ul H B V S R) (fun hg R=>Um H B S (hg (.inl rfl)) R) (fun hg R=>Un H B S (hg (.inr rfl)) R) (fun Z R=>Uo H B V S R) (fun Z R=>Up H B V S R) (fun Z R=>Uq H B V S R) (fun Z R=>Ur H B V S R) (fun Z R=>Us H B V S R) (fun Z R=>Ut H B V S R) (fun Z R=>Uu H B V S R) (fun Z R=>MG H B V S R) (fun Z R=>MH H B V S R)
end
end
section
variable {d:DV} {l:zL}
theorem dN.le {c:Nat} {a:Ab} (B:dN c a):dN (c+1) a:=⟨fun t j=>by have:=B.l t j;exact Fy this,B.pl,B.g3,⟨B.fs.1,by have:=B.fs;exact Je this⟩,⟨B.ms.1,by have:=B.ms;exact Jf this⟩,B.cc,B.fin,⟨B.ns.1,by have:=B.ns.2;exact NB this⟩,⟨B.as.1,by have:=B.as;exact ND this⟩,by have:=B.ts;exact NF this⟩
theorem dN.bz {c t j:Nat} {a:Ab} {x:zL} (B:dN (c+1) a) (H:x.length≤10+(c+1)) (G:∀d∈x,Pl d) (hg:j=3∨j=4→x≠[]):dN (c+1) (a.bz t j x):=by
 have e:∀s k,(a.bz t j x).l s k=if s=t∧k=j then x else a.l s k:=fun _ _=>rfl
 refine ⟨fun s k=>?_,fun s k=>?_,fun s hs=>⟨?_,?_⟩,B.fs,B.ms,B.cc,B.fin,B.ns,B.as,B.ts⟩
 ·rw [e];split
  ·exact H
  ·exact B.l s k
 ·rw [e];split
  ·exact G
  ·exact B.pl s k
 ·rw [e];split
  ·rename_i h;exact hg (.inl h.2.symm)
  ·exact (B.g3 s hs).1
 ·rw [e];split
  ·rename_i h;exact hg (.inr h.2.symm)
  ·exact (B.g3 s hs).2
theorem nD (h:∀d∈l,Pl d) (hd:Pl d):∀e∈l++[d],Pl e:=fun e he=>(jx he).elim (h e) fun z=>(nW z)▸hd
theorem AE (h:∀d∈l,Pl d) (hd:Pl d):∀e∈l.set 0 d,Pl e:=fun e he=>by
 cases l with
 |nil=>exact nomatch he
 |cons x l=>exact (dP he).elim (fun z=>z▸hd) fun z=>h e (.tail _ z)
theorem AV (h:l≠[]):l.set 0 d≠[]:=by cases l with|nil=>exact absurd rfl h|cons=>exact fun z=>nomatch z
theorem len_app {c:Nat} (h:l.length≤10+c):(l++[d]).length≤10+(c+1):=by rw [fO];show l.length+1≤_;exact NG h
section
variable {c ak i:Nat} {a:Ab}
theorem dN.once (B:dN c a) {j:Nat} (hd:Pl d) (J:¬(j=3∨j=4)):dN (c+1) (a.bz ak j (once (a.l ak j) d)):=
 e9 (P:=fun x=>dN (c+1) (a.bz ak j x)) hd (B.pl _ _) (fun Z=>by rw [cV];exact B.le) fun Z=>B.le.bz (len_app (B.l _ _)) (nD (B.pl _ _) hd) fun h=>absurd h J
theorem yI {ns:zD} {k v:DV} (hk:j7 k) (h:∀p∈ns,j7 p.1):(∀p∈lz ns k v,j7 p.1)∧(lz ns k v).length≤ns.length+1:=by
 refine aA (iz hk h) fun b hb=>?_;cases b with
 |true=>rw [pN hb];exact ⟨h,Nat.le_succ _⟩
 |false=>rw [pM hb];exact oH hk h
theorem dN.eO (B:dN c a) {op:Nat} (ho:op<12) (hg:op=1∨op=2→ak∈i6):dN (c+1) (eO a op ak i).1:=by
 have C:=B.fs;have A:=B.ms;revert hg;refine jV ho ?_ ?_ ?_ ?_ ?_ ?_ ?_ ?_ ?_ ?_ ?_ ?_
 ·intro Z
  have hm:i%2=0∨i%2=1:=QL;obtain ⟨d,hd,F⟩:∃d,aL [I 7,I 13] (i%2)=some d∧Pl d:=by rcases hm with q|q<;>rw [q]<;>exact cJ _ rfl rfl
  show dN (c+1) (match aL [I 7,I 13] (i%2) with|some d=>(a.bz ak 1 (Mine.once (a.l ak 1) d),I 0)|none=>(a,I 0)).1;rw [hd];exact B.once F aD
 ·intro hg;exact B.le.bz (by rw [List.length_set];have:=B.l ak 4;exact Fy this) (AE (B.pl _ _) rfl) fun Z=>AV (B.g3 _ (hg (.inl rfl))).2
 ·intro hg;exact B.le.bz (by rw [List.length_set];have:=B.l ak 3;exact Fy this) (AE (B.pl _ _) rfl) fun Z=>AV (B.g3 _ (hg (.inr rfl))).1
 ·intro Z
  have X:=B.le.bz (t:=ak) (j:=5) (x:=a.l ak 5++[I a.fs.length]) (len_app (B.l _ _)) (nD (B.pl _ _) rfl) fun h=>h.elim (fun h=>nomatch h) fun h=>nomatch h;exact ⟨X.l,X.pl,X.g3,⟨by show 64≤(a.fs++[ak]).length;rw [fO];exact NJ C,by show (a.fs++[ak]).length≤_;rw [fO];show a.fs.length+1≤_;exact NK C⟩,X.ms,X.cc,X.fin,X.ns,X.as,X.ts⟩
 ·intro Z
  have X:=B.le.bz (t:=ak) (j:=6) (x:=a.l ak 6++[I a.ms.length]) (len_app (B.l _ _)) (nD (B.pl _ _) rfl) fun h=>h.elim (fun h=>nomatch h) fun h=>nomatch h;refine ⟨X.l,X.pl,X.g3,X.fs,⟨by show 256≤(a.ms++[ak]).length;rw [fO];exact NN A,by show (a.ms++[ak]).length≤_;rw [fO];show a.ms.length+1≤_;exact NP A⟩,fun s=>?_,X.fin,X.ns,X.as,X.ts⟩;show (if s=ak then Int.ofNat a.ms.length else a.cc s)=_∨_;show (if s=ak then Int.ofNat a.ms.length else a.cc s)= .ofNat 0∨∃n,256≤n∧(if s=ak then Int.ofNat a.ms.length else a.cc s)= .ofNat n;split
  ·exact .inr ⟨_,A.1,rfl⟩
  ·exact B.cc s
 ·intro Z
  have X:=B.le;have N:=yI (v:=I (64+a.ts.length)) (k:= .ai [I 0,.str (d8 ak),I (i%4)]) ⟨_,_,_,rfl⟩ B.ns.1;exact ⟨X.l,X.pl,X.g3,X.fs,X.ms,X.cc,X.fin,⟨N.1,by have:=N.2;have:=B.ns.2;show (lz a.ns _ _).length≤_;exact fQ N.2 (Nat.succ_le_succ this)⟩,X.as,by show (a.ts++[_]).length≤_;rw [fO];have:=B.ts;show a.ts.length+1≤_;exact R_ this⟩
 ·intro Z
  have X:=B.le;have:=B.as;exact ⟨X.l,X.pl,X.g3,X.fs,X.ms,X.cc,X.fin,X.ns,⟨by show 1≤(a.as++[oZ]).length;rw [fO];exact NT this,by show (a.as++[oZ]).length≤_;rw [fO];show a.as.length+1≤_;exact NV this⟩,X.ts⟩
 ·intro Z;exact B.once rfl aD
 ·intro Z;exact B.once rfl aD
 ·intro Z;exact B.once rfl aD
 ·intro Z
  have E:∀{a':Ab},dN (c+1) a'→dN (c+1) {a' with fs:=a.fs.set (i%65) ak}:=fun {a'} X=>⟨X.l,X.pl,X.g3,⟨by show 64≤(a.fs.set _ _).length;rw [List.length_set];exact NX C,by show (a.fs.set _ _).length≤_;rw [List.length_set];exact Je C⟩,X.ms,X.cc,X.fin,X.ns,X.as,X.ts⟩
  refine fY (P:=fun x=>dN (c+1) x.1) C.1 (fun Z=>B.le) (fun Z Z=>B.le) (fun Z Z Z Z Z Z=>B.le) (fun Z Z Z=>E ?_) fun Z Z Z Z=>E B.le;exact B.le.bz (len_app (B.l _ _)) (nD (B.pl _ _) rfl) fun h=>h.elim (fun h=>nomatch h) fun h=>nomatch h
 ·intro Z
  have D:∀{a':Ab},dN (c+1) a'→dN (c+1) {a' with ms:=a.ms.set (254+i%3) ak,fin:=upd a'.fin ak (.ofNat (254+i%3))}:=fun {a'} X=>⟨X.l,X.pl,X.g3,X.fs,⟨by show 256≤(a.ms.set _ _).length;rw [List.length_set];exact NZ A,by show (a.ms.set _ _).length≤_;rw [List.length_set];exact Jf A⟩,X.cc,fun s=>by
   show ∃n,(if s=ak then Int.ofNat (254+i%3) else a'.fin s)= .ofNat n;split
   ·exact ⟨_,rfl⟩
   ·exact X.fin s,X.ns,X.as,X.ts⟩
  refine fY (P:=fun x=>dN (c+1) x.1) A.1 (fun Z=>B.le) (fun Z Z=>B.le) (fun Z Z Z Z Z Z=>B.le) (fun Z Z Z=>D ?_) fun Z Z Z Z=>D B.le;exact B.le.bz (len_app (B.l _ _)) (nD (B.pl _ _) rfl) fun h=>h.elim (fun h=>nomatch h) fun h=>nomatch h
end
end
noncomputable abbrev O0:Rg:=⟨0,.nil⟩
noncomputable def BH (r:Nat) (o:RR):Rg:=match o with
 | .ok _ σ _=>match aL σ r with
  |some g=>g
  |none=>O0
 |_=>O0
noncomputable def tX (q:DV→DV→Bool):List DV→List DV→Bool
 |[],l=>match l with
  |[]=>true
  |_::_=>false
 |a::l,k=>match k with
  |[]=>false
  |b::k=>match q a b with
   |true=>tX q l k
   |false=>false
noncomputable def iA:Nat→DV→DV→Bool
 |0,_,_=>false
 |f+1,a,b=>match a with
  | .none=>match b with
   | .none=>true
   |_=>false
  | .int i=>match b with
   | .int j=>ck i j
   |_=>false
  | .str s=>match b with
   | .str t=>kL s t
   |_=>false
  | .ai l=>match b with
   | .ai k=>tX (iA f) l k
   |_=>false
  | .aj r k=>match b with
   | .aj r' k'=>match Nat.beq r r' with
    |true=>Nat.beq k k'
    |false=>false
   |_=>false
  |_=>false
theorem p8 {q:DV→DV→Bool} (h:∀a b,q a b=true→a=b):∀{l k:zL},tX q l k=true→l=k
 |[],k,e=>by
  cases k with
  |nil=>rfl
  |cons=>exact nof e
 |a::l,k,e=>by
  cases k with
  |nil=>exact nof e
  |cons b k=>
   have e:(match q a b with|true=>tX q l k|false=>false)=true:=e;cases x:q a b with
   |false=>rw [x] at e;exact nof e
   |true=>rw [x] at e;rw [h a b x,p8 h e]
theorem cZ {f:Nat}:∀{a b:DV},iA f a b=true→a=b:=by
 induction f with
 |zero=>intro Z Z e;exact nof e
 |succ f ih=>
  intro a b e;cases a with
  |none=>cases b<;>first|rfl|exact nof e
  |int i=>cases b with
   |int j=>exact congrArg DV.int (dR (bJ.symm.trans e))
   |_=>exact nof e
  |str i=>cases b with
   |str j=>exact congrArg DV.str (dR (b9.symm.trans e))
   |_=>exact nof e
  |ai l=>cases b with
   |ai k=>exact congrArg DV.ai (p8 (fun Z Z=>ih) e)
   |_=>exact nof e
  |aj r k=>cases b with
   |aj r' k'=>
    have e:(match Nat.beq r r' with|true=>Nat.beq k k'|false=>false)=true:=e;cases x:Nat.beq r r' with
    |false=>rw [x] at e;exact nof e
    |true=>rw [x] at e;rw [ie x,ie e]
   |_=>exact nof e
  |_=>exact nof e
noncomputable def DJ {A:Type} (q:A→A→Bool):List (A×DV)→List (A×DV)→Bool
 |[],l=>match l with
  |[]=>true
  |_::_=>false
 |a::l,k=>match k with
  |[]=>false
  |b::k=>match q a.1 b.1 with
   |true=>match iA 8 a.2 b.2 with
    |true=>DJ q l k
    |false=>false
   |false=>false
theorem tO {A:Type} {q:A→A→Bool} (h:∀a b,q a b=true→a=b):∀{l k:List (A×DV)},DJ q l k=true→l=k
 |[],k,e=>by
  cases k with
  |nil=>rfl
  |cons=>exact nof e
 |a::l,k,e=>by
  cases k with
  |nil=>exact nof e
  |cons b k=>
   have e:(match q a.1 b.1 with|true=>(match iA 8 a.2 b.2 with|true=>DJ q l k|false=>false)|false=>false)=true:=e;cases x:q a.1 b.1 with
   |false=>rw [x] at e;exact nof e
   |true=>
    rw [x] at e;have e:(match iA 8 a.2 b.2 with|true=>DJ q l k|false=>false)=true:=e;cases y:iA 8 a.2 b.2 with
    |false=>rw [y] at e;exact nof e
    |true=>rw [y] at e;rw [tO h e,show a=b from Prod.ext (h _ _ x) (cZ y)]
noncomputable def QM (a b:KD):Bool:=match a with
 | .z=>match b with| .z=>true|_=>false
 | .s=>match b with| .s=>true|_=>false
 | .r=>match b with| .r=>true|_=>false
 | .n=>match b with| .n=>true|_=>false
noncomputable def LZ (a b:CB):Bool:=match a with
 | .inst c l=>match b with
  | .inst d k=>match Nat.beq c d with
   |true=>DJ Nat.beq l k
   |false=>false
  |_=>false
 | .list l=>match b with
  | .list k=>tX (iA 8) l k
  |_=>false
 | .dict a l=>match b with
  | .dict b k=>match QM a b with
   |true=>DJ (iA 8) l k
   |false=>false
  |_=>false
 |_=>false
theorem yV {a b:CB} (e:LZ a b=true):a=b:=by
 cases a with
 |inst c l=>cases b with
  |inst d k=>
   have e:(match Nat.beq c d with|true=>DJ Nat.beq l k|false=>false)=true:=e;cases x:Nat.beq c d with
   |false=>rw [x] at e;exact nof e
   |true=>rw [x] at e;rw [ie x,tO (fun Z Z h=>ie h) e]
  |_=>exact nof e
 |list l=>cases b with
  |list k=>exact congrArg CB.list (p8 (fun Z Z=>cZ) e)
  |_=>exact nof e
 |dict d l=>cases b with
  |dict d' k=>
   have e:(match QM d d' with|true=>DJ (iA 8) l k|false=>false)=true:=e;cases x:QM d d' with
   |false=>rw [x] at e;exact nof e
   |true=>rw [x] at e;rw [tO (fun Z Z h=>cZ h) e];cases d<;>cases d'<;>first|rfl|exact nof x
  |_=>exact nof e
 |var=>exact nof e
noncomputable def tT (ad:Ix→Nat) (ct:Ix→CB) (g:TC) (l:List Ix):Bool:=l.all fun x=>match g.get (ad x) with
 |some c=>LZ c.b (ct x)
 |none=>false
theorem pV {V:Ix→Prop} {ad:Ix→Nat} {ct:Ix→CB} {g:TC} {l:List Ix} (h:tT ad ct g l=true) (C:∀x,V x→x∈l):bZ V ad ct g:=fun x B=>by
 have e:=gh h x (C x B);cases q:g.get (ad x) with
 |none=>rw [q] at e;exact nof e
 |some c=>rw [q] at e;exact ⟨c.cz,by rw [←yV e]⟩
noncomputable def AM:List Ix:=(List.range 55).flatMap fun t=>(List.range 10).map fun j=>(t+1,j)
theorem wA {t j:Nat} (D:t<55) (E:j≤9):(t+1,j)∈AM:=List.mem_flatMap.mpr ⟨t,nV D,List.mem_map.mpr ⟨j,nV (N7 E),rfl⟩⟩
noncomputable def l0 (t j:Nat):List DV:=match Nat.beq j 2 with
 |true=>fN t 5
 |false=>match Nat.beq j 3 with
  |true=>fN t 6
  |false=>match Nat.beq j 4 with
   |true=>match Nat.beq t 8 with
    |true=>[.ai [I 2,.ai []]]
    |false=>(fN t 5).map fun Z=> .ai [I 0,.ai []]
   |false=>[]
noncomputable def a0:Ab:=⟨l0,fun Z=> .ofNat 0,fun Z=> .ofNat 0,List.replicate 64 0,List.replicate 256 0,(List.range 55).map fun t=>(.ai [I 0,.str (d8 (t+1)),I (fN (t+1) 5).length],I (t+1)),[.str ⟨⟨[99,111,114,101]⟩⟩],[]⟩
noncomputable def e0:Ex:={rows:=dO,ki:=iI 0 dO,dp:=List.replicate 22 (I 1),wt:=List.replicate 22 (I 1),op:=List.replicate 22 (I 0),ty:=Lb,fl:=List.replicate 64 .none,ml:=List.replicate 256 .none}
section
section
variable {n:Nat} {E C D F G H J K L Q U A:Rg} {i k ak:Nat} {v0 v1 w u v4 z x v7:Nat} {ty S rows:zL} {aK:Str} {so fg cc fin:Int} {mb d:DV} {B y b:Nat} {as:List (Nat×DV)} {N:zP}
section
variable (O:Ge C 8 (xM v0))
include O
section
variable (P:Gl C 1 v1 S) (Y:Sm S.length) (g:Sn (!i.blt S.length)) (X:Ge D 0 (stC w 2)) (a:Gl D 13 u ty) (V:Sm i)
include P Y g X a V
theorem WC (Z:aL ty i=some (.none)) (M:aL S i=some (.none)) (p:N (.f .next) (cl E C D F G H J K L Q U A) [(68,.aj 2 0),(90,.aj 1 8),(26,I i)]):ao N (run PG (n+60) false 11 (.ss nI) (cl E C D F G H J K L Q U A) [(68,.aj 2 0),(90,.aj 1 8),(26,I i)]):=dw [.c O,.s 1,.c P,.b Y,.b g,.c X,.c a,.b V,.d Z,.s 1,.c O,.s 1,.c P,.b V,.d M,.s 1] p
theorem WD (Z:aL ty i=some (.aj 2 y)) (M:Ge D y (lK v4 2 y ak aK so fg (.ofNat b) cc fin)) (T:Ge D 1 ⟨z,.inst 79 [(6,.aj 2 2),(7,.aj 2 3),(8,.aj 2 4),(9,.aj 2 5),(10,.aj 2 6)]⟩) (R:Gl D 2 x rows) (r:Sm rows.length) (q:Sn (!b.blt rows.length)) (o:Sm b) (m:aL rows b=some (d)) (j:aL S i=some (.aj 1 B)) (h:fy PG (cl E C D F G H J K L Q U ⟨A.n+1,.aq A.n ⟨0,.dict .s (Gv 2 y ak aK so fg (d) cc fin)⟩ A.t⟩) wV.ne (.aj 11 A.n) (.aj 1 B)=some false) (p:N (.f .next) (cl E C D F G H J K L Q U ⟨A.n+1,.aq A.n ⟨0,.dict .s (Gv 2 y ak aK so fg (d) cc fin)⟩ A.t⟩) [(68,.aj 2 0),(90,.aj 1 8),(26,I i)]):ao N (run PG (n+60) false 11 (.ss nI) (cl E C D F G H J K L Q U A) [(68,.aj 2 0),(90,.aj 1 8),(26,I i)]):=dw [.c O,.s 1,.c P,.b Y,.b g,.c X,.c a,.b V,.d Z,.s 1,.c M,.c M,.c M,.c M,.c M,.c M,.c M,.c M,.s 1,.c X,.c T,.c M,.s 1,.c T,.c R,.b r,.b q,.c T,.c R,.b o,.d m,.c M,.c M,.c M,.c M,.c M,.c M,.c M,.c M,.c M,.c M,.c M,.c O,.s 1,.c P,.b V,.d j,.b h] p
theorem WB (Z:aL ty i=some (.aj 2 y)) (M:Ge D y (lK v4 2 y ak aK so fg (.negSucc 0) cc fin)) (T:aL S i=some (.aj 1 B)) (R:fy PG (cl E C D F G H J K L Q U ⟨A.n+1,.aq A.n ⟨0,.dict .s (Gv 2 y ak aK so fg (.ai []) cc fin)⟩ A.t⟩) wV.ne (.aj 11 A.n) (.aj 1 B)=some false) (p:N (.f .next) (cl E C D F G H J K L Q U ⟨A.n+1,.aq A.n ⟨0,.dict .s (Gv 2 y ak aK so fg (.ai []) cc fin)⟩ A.t⟩) [(68,.aj 2 0),(90,.aj 1 8),(26,I i)]):ao N (run PG (n+60) false 11 (.ss nI) (cl E C D F G H J K L Q U A) [(68,.aj 2 0),(90,.aj 1 8),(26,I i)]):=dw [.c O,.s 1,.c P,.b Y,.b g,.c X,.c a,.b V,.d Z,.s 1,.c M,.c M,.c M,.c M,.c M,.c M,.c M,.c M,.s 2,.c M,.c M,.c M,.c M,.c M,.c M,.c M,.c M,.c M,.c M,.c M,.c O,.s 1,.c P,.b V,.d T,.b R] p
theorem Ww (Z:aL ty i=some (.aj 9 y)) (M:Ge Q y (lK v4 9 y ak aK so fg (.ofNat b) cc fin)) (T:Ge D 1 ⟨z,.inst 79 [(6,.aj 2 2),(7,.aj 2 3),(8,.aj 2 4),(9,.aj 2 5),(10,.aj 2 6)]⟩) (R:Gl D 2 x rows) (r:Sm rows.length) (q:Sn (!b.blt rows.length)) (o:Sm b) (m:aL rows b=some (d)) (j:aL S i=some (.aj 10 B)) (h:fy PG (cl E C D F G H J K L Q U ⟨A.n+1,.aq A.n ⟨0,.dict .s (Gv 9 y ak aK so fg (d) cc fin)⟩ A.t⟩) wV.ne (.aj 11 A.n) (.aj 10 B)=some false) (p:N (.f .next) (cl E C D F G H J K L Q U ⟨A.n+1,.aq A.n ⟨0,.dict .s (Gv 9 y ak aK so fg (d) cc fin)⟩ A.t⟩) [(68,.aj 2 0),(90,.aj 1 8),(26,I i)]):ao N (run PG (n+60) false 11 (.ss nI) (cl E C D F G H J K L Q U A) [(68,.aj 2 0),(90,.aj 1 8),(26,I i)]):=dw [.c O,.s 1,.c P,.b Y,.b g,.c X,.c a,.b V,.d Z,.s 1,.c M,.c M,.c M,.c M,.c M,.c M,.c M,.c M,.s 1,.c X,.c T,.c M,.s 1,.c T,.c R,.b r,.b q,.c T,.c R,.b o,.d m,.c M,.c M,.c M,.c M,.c M,.c M,.c M,.c M,.c M,.c M,.c M,.c O,.s 1,.c P,.b V,.d j,.b h] p
end
theorem Wx (P:Ge D 0 (stC w 2)) (Y:Gl D 13 u ty) (g:Sm ty.length) (X:Gl C 1 v1 S) (a:Sm S.length) (p:N (.v (.aj 11 (A.n+1))) ((cl E C D F G H J K L Q U ⟨A.n+2,.aq (A.n+1) ⟨0,.dict .s [(.str ⟨⟨[116,121,112,101,115]⟩⟩,.aj 11 A.n),(.str ⟨⟨[110,97,109,101,115]⟩⟩,.aj 2 10),(.str ⟨⟨[97,115,109,115]⟩⟩,.aj 2 11),(.str ⟨⟨[101,110,116,114,121]⟩⟩,I 0)]⟩ (.aq A.n ⟨0,.list (List.take ty.length S)⟩ A.t)⟩)) ([(68,.aj 2 0),(90,.aj 1 8),(26,d)])):ao N (run PG (n+30) false 11 (.e (c8 1)) (cl E C D F G H J K L Q U A) [(68,.aj 2 0),(90,.aj 1 8),(26,d)]):=dw [.c O,.s 1,.c P,.c Y,.b g,.c X,.s 1,.b a,.c P,.c P,.c P] p
end
section
variable (O:Ge D 0 (stC w 2))
include O
theorem WA (P:Gl D 13 u ty) (Y:Sm ty.length) (p:N (.v (I (ty.length))) (cl E C D F G H J K L Q U A) ([(68,.aj 2 0),(90,.aj 1 8)])):ao N (run PG (n+30) false 11 (.e (c8 0)) (cl E C D F G H J K L Q U A) [(68,.aj 2 0),(90,.aj 1 8)]):=dw [.c O,.c P,.b Y] p
theorem Wy (p:N (.v (.aj 2 15)) (cl E C D F G H J K L Q U A) ([(68,.aj 2 0),(90,.aj 1 8),(26,d),(96,.aj 11 k)])):ao N (run PG (n+30) false 11 (.e (.bX (.l 68) 62)) (cl E C D F G H J K L Q U A) [(68,.aj 2 0),(90,.aj 1 8),(26,d),(96,.aj 11 k)]):=dw [.c O] p
theorem Wz (p:N (.v (.aj 2 17)) (cl E C D F G H J K L Q U A) ([(68,.aj 2 0),(90,.aj 1 8),(26,d),(96,.aj 11 k)])):ao N (run PG (n+30) false 11 (.e (.bX (.l 68) 39)) (cl E C D F G H J K L Q U A) [(68,.aj 2 0),(90,.aj 1 8),(26,d),(96,.aj 11 k)]):=dw [.c O] p
end
theorem WG (p:N (.v (I 0)) (cl E C D F G H J K L Q U A) ([(97,.none)])):ao N (run PG (n+30) false 11 (.e (c8 2)) (cl E C D F G H J K L Q U A) [(97,.none)]):=dw [.s 1] p
theorem WH (O:Ge Q y ⟨v4,.inst 441 ((47,d)::(48,I b)::as)⟩) (p:N (.v (I b)) (cl E C D F G H J K L Q U A) ([(97,.aj 9 y)])):ao N (run PG (n+30) false 11 (.e (c8 2)) (cl E C D F G H J K L Q U A) [(97,.aj 9 y)]):=dw [.s 1,.c O] p
theorem WM (p:N (.v (I 0)) (cl E C D F G H J K L Q U A) ([(75,.none)])):ao N (run PG (n+30) false 11 (.e (c8 3)) (cl E C D F G H J K L Q U A) [(75,.none)]):=dw [.s 1] p
theorem WN (O:Ge Q y ⟨v4,.inst 462 ((52,d)::(48,I b)::as)⟩) (p:N (.v (I b)) (cl E C D F G H J K L Q U A) ([(75,.aj 9 y)])):ao N (run PG (n+30) false 11 (.e (c8 3)) (cl E C D F G H J K L Q U A) [(75,.aj 9 y)]):=dw [.s 1,.c O] p
theorem WE (O:fy PG (cl E C D F G H J K L Q U A) wV.eq (.aj 11 k) (.aj 1 8)=some true) (p:N (.v (.bool true)) (cl E C D F G H J K L Q U A) ([(68,.aj 2 0),(90,.aj 1 8),(26,d),(96,.aj 11 k)])):ao N (run PG (n+30) false 11 (.e (c8 4)) (cl E C D F G H J K L Q U A) [(68,.aj 2 0),(90,.aj 1 8),(26,d),(96,.aj 11 k)]):=dw [.b O] p
end
end
section
variable {q:DV→DV→Bool} {k r v r' k' v':Nat}
theorem dj:∀{l:zL},(∀d∈l,q d d=true)→lE q l l=true
 |[],_=>rfl
 |d::l,h=>by show (match q d d with|true=>lE q l l|false=>false)=true;rw [h d (.head _)];exact dj fun e he=>h e (.tail _ he)
theorem ek {σ:ah}:∀{F f:Nat} {d:DV},f≤F→wj f d=true→eqT σ F d d=true
 |F,0,_,_,h=>nof h
 |0,f+1,_,h,_=>absurd h (Nat.not_succ_le_zero _)
 |F+1,f+1,d,hf,h=>by
  show (AR d d||uc σ (eqT σ F) d d)=true;have:uc σ (eqT σ F) d d=true:=by
   cases d with
   |none=>rfl
   |int i=>exact bJ.trans (gH rfl)
   |str s=>exact b9.trans (gH rfl)
   |ai l=>exact dj fun d hd=>ek (Nat.le_of_succ_le_succ hf) (gh h d hd)
   |_=>exact nof h
  rw [this,Bool.or_true]
theorem m6 {σ:ah} {d:DV} (h:Pl d):eqT σ 8 d d=true:=ek (f:=4) aD h
theorem lR {σ:ah} {l m:zL} (O:aN σ r k=some ⟨v,.list l⟩) (M:aN σ r' k'=some ⟨v',.list m⟩) (h:lE q l m=true):uc σ q (.aj r k) (.aj r' k')=true:=by show (match i7 σ (.aj r k) with|some l=>(match i7 σ (.aj r' k') with|some L=>lE q l L|none=>false)|none=>false)=true;rw [lY O,lY M];exact h
theorem iE {σ:ah} {l:zL} (O:aN σ r k=some ⟨v,.list l⟩) (M:aN σ r' k'=some ⟨v',.list l⟩) (h:∀d∈l,Pl d):eqT σ 8 (.aj r k) (.aj r' k')=true:=by show (AR _ _||uc σ (eqT σ 7) _ _)=true;rw [lR O M (dj fun d hd=>ek (f:=4) aD (h d hd)),Bool.or_true]
theorem aJ {m l:zD} {k v d:DV} (h:cW m k=some d) (u:q v d=true) (r:kq q m l=true):kq q m ((k,v)::l)=true:=by show (match cW m k with|some d=>(match q v d with|true=>kq q m l|false=>false)|none=>false)=true;rw [h];show (match q v d with|true=>kq q m l|false=>false)=true;rw [u];exact r
set_option backward.match.sparseCases false in
theorem vo {σ:ah} {kd:KD} {l:zD} (h:aN σ r k=some ⟨v,.dict kd l⟩) (hk:KD.g9 kd kd=true):nZ σ kd (.aj r k)=some l:=by show (match aN σ r k with|some c=>(match c.b with| .dict j4 l=>(match KD.g9 j4 kd with|true=>some l|false=>none)|_=>none)|none=>none)=some l;rw [h];show (match KD.g9 kd kd with|true=>some l|false=>none)=some l;rw [hk]
theorem qa {σ:ah} {kd:KD} {l m:zD} (hk:KD.g9 kd kd=true) (O:aN σ r k=some ⟨v,.dict kd l⟩) (M:aN σ r' k'=some ⟨v',.dict kd m⟩) (E:l.length=m.length) (h:kq q m l=true):iD σ kd q (.aj r k) (.aj r' k')=true:=by show (match nZ σ kd (.aj r k) with|some l=>(match nZ σ kd (.aj r' k') with|some m=>Nat.beq l.length m.length&&kq q m l|none=>false)|none=>false)=true;rw [vo O hk,vo M hk];show (Nat.beq l.length m.length&&kq q m l)=true;rw [E,Nat.beq_refl,h];rfl
theorem zl {σ:ah} (h:iD σ .s (fun a b=>eqT σ 8 a b||iD σ .n (eqT σ 8) a b) (.aj r k) (.aj r' k')=true):EZ σ (.aj r k) (.aj r' k')=some true:=by show (match uc σ (eqT σ 8) (.aj r k) (.aj r' k')||iD σ .s (fun a b=>eqT σ 8 a b||iD σ .n (eqT σ 8) a b) (.aj r k) (.aj r' k') with|true=>some true|false=>none)=some true;rw [h,Bool.or_true]
theorem sA {a b:Bool} (h:a=true):(a||b)=true:=by rw [h];rfl
theorem qP {σ:ah} {x y B ak:Nat} {aK:Str} {so fg cc fin:Int} {ba:DV} (O:aN σ 11 x=some ⟨v,.dict .s (Gv r y ak aK so fg ba cc fin)⟩) (M:aN σ r' B=some ⟨v',.dict .s (xV r' B ak aK so fg ba cc fin)⟩) (hb:Pl ba) (E:∀j,1≤j→j≤9→eqT σ 8 (.aj r (y+mo j)) (.aj r' (B+j))=true):fy PG σ .ne (.aj 11 x) (.aj r' B)=some false:=by
 show lI (EZ σ (.aj 11 x) (.aj r' B))=some false;rw [zl (qa rfl O M rfl ?_)]
 ·rfl
 ·have i:∀{z:Int},(fun a b=>eqT σ 8 a b||iD σ .n (eqT σ 8) a b) (.int z) (.int z)=true:=sA (m6 rfl)
  refine aJ (d:=I ak) cg i<|aJ (d:= .str aK) cg (sA (m6 rfl))<|aJ (d:= .int so) cg i<|aJ (d:= .int fg) cg i<|aJ (d:=I 0) cg i<|aJ (d:= .int cc) cg i<|aJ (d:=I 0) cg i<|aJ (d:=ba) cg (sA (m6 hb))<|aJ (d:= .int (.negSucc 0)) cg i<|aJ (d:= .int fin) cg i<|
   aJ (d:= .aj r' (B+1)) cg (sA (E 1 aD aD))<|aJ (d:= .aj r' (B+2)) cg (sA (E 2 aD aD))<|aJ (d:= .aj r' (B+3)) cg (sA (E 3 aD aD))<|aJ (d:= .aj r' (B+4)) cg (sA (E 4 aD aD))<|aJ (d:= .aj r' (B+5)) cg (sA (E 5 aD aD))<|aJ (d:= .aj r' (B+6)) cg (sA (E 6 aD aD))<|aJ (d:= .aj r' (B+7)) cg (sA (E 7 aD aD))<|aJ (d:= .aj r' (B+8)) cg (sA (E 8 aD aD))<|aJ (d:= .aj r' (B+9)) cg (sA (E 9 aD aD)) rfl
inductive F2 (P:DV→DV→Prop):List DV→List DV→Prop
 |nil:F2 P [] []
 |cons {a b:DV} {l k:zL}:P a b→F2 P l k→F2 P (a::l) (b::k)
theorem F2.bW {P:DV→DV→Prop} {R:zL→Prop} {vs:zL} (t:F2 P [] vs) (h:R []):R vs:=by cases t;exact h
theorem F2.aQ {P:DV→DV→Prop} {R:zL→Prop} {d:DV} {ds vs:zL} (t:F2 P (d::ds) vs) (f:∀w ws,P d w→F2 P ds ws→R (w::ws)):R vs:=by cases t with|cons a b=>exact f _ _ a b
section
variable {D Ψ:zP} {n av x:Nat} {σ:ah} {ls l0:Lc} {e:ME} {b l:List MS} {z:Bool}
theorem zF {f:Addr} {mf:MF} {ds:zL} {bs:Lc} (O:aF PG.fn f=some mf) (M:mf.cv=[]) (h3:eS mf.ps ds=some bs) (p:ao (fun r A Z=>match r with| .f fl=>(match fl with| .next=>D (.v .none) A l0| .ret d=>D (.v d) A l0)| .x=>D .y A []| .z d=>D (.z d) A l0|_=>False) (run PG n z av (.ss mf.body) σ bs)):ao D (run PG (n+1) z av (.call f ds) σ l0):=by
 show ao D (bo (aF PG.fn f) fun mf=>bo (eS mf.ps ds) fun bs=>jj z av mf.cv bs σ fun bs σ=>yU (run PG n z av (.ss mf.body) σ bs) l0);rw [O];show ao D (bo (eS mf.ps ds) fun bs=>jj z av mf.cv bs σ fun bs σ=>yU (run PG n z av (.ss mf.body) σ bs) l0);rw [h3];show ao D (jj z av mf.cv bs σ fun bs σ=>yU (run PG n z av (.ss mf.body) σ bs) l0);rw [M];exact ao.aT (p.mono fun r A L h=>by
  cases r with
  |f fl=>cases fl<;>exact h
  |x=>exact h
  |z d=>exact h
  |_=>exact h.elim)
abbrev Lg (D:zP) (n av:Nat) (l:List MS) (r:Rs) (σ:ah) (ls:Lc):Prop:=match r with
 | .f fl=>match fl with
  | .next=>ao D (run PG n false av (.ss l) σ ls)
  | .ret d=>D (.f (.ret d)) σ ls
 |_=>False
set_option backward.match.sparseCases false in
theorem rW (p:ao (fun r A Z=>∃N,r= .v (I N)∧N≤5000∧ao (Lg D n av l) (run PG n false av (.cj x none (uF 0 N) b) A ls)) (run PG n false av (.e e) σ ls)):ao D (run PG (n+1) false av (.ss (.cj x e b::l)) σ ls):=by
 refine ao.aT (K:=fun r σ Z=>match r with| .v d=>kJ false d fun g ds=>yo (run PG n false av (.cj x g ds b) σ ls) fun σ ls=>run PG n false av (.ss l) σ ls|_=> .no) (p.mono fun r A L h=>?_);refine iZ h fun N G S q=>?_;subst G;show ao D (.br (some (small N)) (nF 0 N fun L=>yo (run PG n false av (.cj x none L b) A ls) fun σ ls=>run PG n false av (.ss l) σ ls) .no);rw [aB S,kI];exact ao.aT (q.mono fun r σ ls h=>by
  cases r with
  |f fl=>cases fl<;>exact h
  |_=>exact h.elim)
theorem lV {Iv:Nat→ah→Lc→Prop} {K tot:Nat} (step:∀i σ ls m,i<tot→Iv i σ ls→ao (fun r A J=>r= .f .next∧Iv (i+1) A J) (run PG (m+K) false av (.ss b) σ (aV ls x (I i)))) {N:Nat}:∀{i m:Nat} {σ:ah} {ls:Lc},i+N=tot→Iv i σ ls→(∀σ ls,Iv tot σ ls→Ψ (.f .next) σ ls)→ao Ψ (run PG (N+K+m+1) false av (.cj x none (uF i N) b) σ ls):=by
 induction N with
 |zero=>intro i m σ ls S h f;exact f σ ls (by rw [←S];exact h)
 |succ N ih=>intro i m σ ls S h f;show ao Ψ (c_ ls x (I i) fun ls=>yo (run PG (N+1+K+m) false av (.ss b) σ ls) fun σ ls=>nN false σ none (run PG (N+1+K+m) false av (.cj x none (uF (i+1) N) b) σ ls));rw [cU,show N+1+K+m=(N+1+m)+K by exact FD];refine ao.aT ((step i σ ls (N+1+m) (Oa S) h).mono fun r A J q=>?_);obtain ⟨rfl,q⟩:=q;show ao Ψ (run PG (N+1+m+K) false av (.cj x none (uF (i+1) N) b) A J);rw [show N+1+m+K=N+K+m+1 by exact FE];exact ih (Ob S) q f
set_option backward.match.sparseCases false in
theorem k8 (p:ao (fun r A Z=>∃d,r= .v d∧ao D (run PG n false av (.ss l) A (aV ls x d))) (run PG n false av (.e e) σ ls)):ao D (run PG (n+1) false av (.ss (.b7 x e::l)) σ ls):=by refine ao.aT (K:=fun r σ Z=>match r with| .v d=>c_ ls x d fun ls=>run PG n false av (.ss l) σ ls|_=> .no) (p.mono fun r A L h=>?_);refine az h fun d G q=>?_;subst G;show ao D (c_ ls x d fun ls=>run PG n false av (.ss l) A ls);rw [cU];exact q
set_option backward.match.sparseCases false in
theorem D0 (p:ao (fun r A Z=>∃d,r= .v d∧D (.f (.ret d)) A ls) (run PG n false av (.e e) σ ls)):ao D (run PG (n+1) false av (.ss (.ret (some e)::l)) σ ls):=by refine ao.aT (K:=fun r σ Z=>match r with| .v d=> .ok (.f (.ret d)) σ ls| .y=> .ok .y σ []|_=> .no) (p.mono fun r A L h=>?_);refine az h fun d G q=>?_;subst G;exact q
set_option backward.match.sparseCases false in
theorem zG {elt it:ME} {fv:List Nat} (hp:pick fv ls=some l0) (p:ao (fun r A u=>∃rr k v ds,r= .v (.aj rr k)∧aN A rr k=some ⟨v,.list ds⟩∧ds.length≤5000∧ao (fun r H u=>∃vs g,r= .vs vs∧vs.length≤5000∧H[av]?=some g∧D (.v (.aj av g.n)) (ez false H av (.list vs)) ls) (run PG n false av (.cp [x] (some (rr,k,v)) ds elt none) A l0)) (run PG n false av (.e it) σ ls)):ao D (run PG (n+1) false av (.e (.comp [x] elt false it none fv)) σ ls):=by
 show ao D (bo (pick fv ls) fun l0=>bv (run PG n false av (.e it) σ ls) fun d σ=>fD false σ d fun g ds=>g6 (run PG n false av (.cp [x] g ds elt none) σ l0) fun vs σ=>gG false vs.length (cT false av σ (.list vs) fun v σ=> .ok (.v v) σ ls));rw [hp];refine ao.aT (K:=fun r σ u=>match r with| .v d=>fD false σ d fun g ds=>g6 (run PG n false av (.cp [x] g ds elt none) σ l0) fun vs σ=>gG false vs.length (cT false av σ (.list vs) fun v σ=> .ok (.v v) σ ls)|_=> .no) (p.mono fun r A L h=>?_);refine Iw h fun rr k v ds U T E q=>?_;subst U;have e0:aN A rr k=match ja A rr with|some t=>t.get k|none=>none:=by unfold aN ja;cases aL A rr<;>rfl
 rw [T] at e0;cases Q:ja A rr with
 |none=>rw [Q] at e0;exact nomatch e0
 |some t=>rw [Q] at e0;show ao D (.oc (ja A rr) k fun c=>match c.b with| .list l=>gG false l.length (g6 (run PG n false av (.cp [x] (some (rr,k,c.cz)) l elt none) A l0) fun vs σ=>gG false vs.length (cT false av σ (.list vs) fun v σ=> .ok (.v v) σ ls))|_=> .no);rw [Q];refine eN e0.symm ?_;show ao D (.br (some (small ds.length)) (g6 (run PG n false av (.cp [x] (some (rr,k,v)) ds elt none) A l0) fun vs σ=>gG false vs.length (cT false av σ (.list vs) fun v σ=> .ok (.v v) σ ls)) .no);rw [aB E];refine ao.aT (K:=fun r σ u=>match r with| .vs vs=>gG false vs.length (cT false av σ (.list vs) fun v σ=> .ok (.v v) σ ls)|_=> .no) (q.mono fun r H Y h=>?_);refine tZ h fun vs g V Z hg f=>?_;subst V;show ao D (.br (some (small vs.length)) (cT false av H (.list vs) fun v σ=> .ok (.v v) σ ls) .no);rw [aB Z,qz hg];exact f
theorem IT {elt:ME} {rr:Nat} {Iq:zL} {K:Nat} {P:DV→DV→Prop} (hP:∀d w,P d w→∀m D,D (.v w) σ [(x,d)]→ao D (run PG (m+K) false av (.e elt) σ [(x,d)])) (T:aN σ rr k=some ⟨v,.list Iq⟩) {ds:zL}:∀{vs:zL} {m:Nat} {ls:Lc},(ls=[]∨∃d,ls=[(x,d)])→F2 P ds vs→ao (fun r A Z=>r= .vs vs∧A=σ) (run PG (ds.length+K+m+1) false av (.cp [x] (some (rr,k,v)) ds elt none) σ ls):=by
 induction ds with
 |nil=>intro Z m ls Z t;exact t.bW (R:=fun vs=>ao (fun r A Z=>r= .vs vs∧A=σ) _) ⟨rfl,rfl⟩
 |cons d ds ih=>
  intro vs m ls E t;refine t.aQ (R:=fun vs=>ao (fun r A Z=>r= .vs vs∧A=σ) _) fun w vs h t=>?_;have e:aV ls x d=[(x,d)]:=by
   rcases E with rfl|⟨d',rfl⟩
   ·rfl
   ·show (if x=x then (x,d)::[] else _)=_
    rw [bk rfl]
  show ao _ (c_ ls x d fun ls=>bv (run PG (ds.length+1+K+m) false av (.e elt) σ ls) fun v' σ=>nN false σ (some (rr,k,v)) (g6 (run PG (ds.length+1+K+m) false av (.cp [x] (some (rr,k,v)) ds elt none) σ ls) fun vs σ=> .ok (.vs (v'::vs)) σ ls));rw [cU,e,show ds.length+1+K+m=(ds.length+1+m)+K by exact FD];refine ao.aT (hP _ _ h _ (fun r A J=>_) ?_);have e0:aN σ rr k=match ja σ rr with|some t=>t.get k|none=>none:=by unfold aN ja;cases aL σ rr<;>rfl
  rw [T] at e0;cases Q:ja σ rr with
  |none=>rw [Q] at e0;exact nomatch e0
  |some tr=>rw [Q] at e0;show ao _ (.oc (ja σ rr) k fun c=> .br (some (Nat.beq c.cz v)) (g6 (run PG (ds.length+1+m+K) false av (.cp [x] (some (rr,k,v)) ds elt none) σ [(x,d)]) fun vs σ=> .ok (.vs (w::vs)) σ [(x,d)]) .no);rw [Q];refine eN e0.symm ?_;show ao _ (.br (some (Nat.beq v v)) (g6 (run PG (ds.length+1+m+K) false av (.cp [x] (some (rr,k,v)) ds elt none) σ [(x,d)]) fun vs σ=> .ok (.vs (w::vs)) σ [(x,d)]) .no);rw [Nat.beq_refl,show ds.length+1+m+K=ds.length+K+m+1 by exact FE];refine ao.aT ((ih (.inr ⟨d,rfl⟩) t).mono fun r A L q=>?_);refine aZ q fun X G=>?_;subst X;subst G;exact ⟨rfl,rfl⟩
end
theorem uD {h:Rg} {C:Nat} {P:DV→DV→Prop} (f:∀d o,jB h C k d o→P d (I o)):∀{ds:zL} {os:List Nat},Own h C k ds os→F2 P ds (os.map I)
 |[],[],_=> .nil
 |[],_::_,h=>nomatch h.1
 |_::_,[],h=>nomatch h.1
 |d::ds,o::os,h=> .cons (f d o (h.2 0 d o rfl rfl)) (uD f ⟨Nat.succ.inj h.1,fun i d o a b=>h.2 (i+1) d o a b⟩)
end
section
variable {i:Nat}
theorem Et {f:Nat→DV} {x:zL} (h:i=0∨55<i) (G:i<64):aL ((List.range 64).map (fun t=>if 1≤t∧t≤55 then f t else .none)++x) i=some .none:=by rw [aH,uR (by simp;exact Oc G),List.getElem?_map,List.getElem?_range G];show some (if 1≤i∧i≤55 then _ else _)=_;rw [aS (Od h G)]
theorem Eu {f:Nat→DV} {x:zL} {d:DV} (h:x[i]?=some d):aL ((List.range 64).map (fun t=>if 1≤t∧t≤55 then f t else .none)++x) (64+i)=some d:=by
 rw [aH,Bx (by simp)];rw [←h];congr 1
 simp
theorem EE:((List.range 55).all fun t=>match gZ (t+1) with
  | .ofNat b=>match aL dO b with
   |some d=>iA 8 d (ia (t+1))&&(Nat.blt b 22&&wj 4 (ia (t+1)))
   |none=>false
  | .negSucc n=>Nat.beq n 0&&iA 8 (ia (t+1)) (.ai []))=true:=by kernel_rfl
theorem yP {R:Prop} {t:Nat} (M:t<55) (H:∀b,gZ (t+1)= .ofNat b→aL dO b=some (ia (t+1))→b<22→Pl (ia (t+1))→R) (G:gZ (t+1)= .negSucc 0→ia (t+1)= .ai []→R):R:=by
 have e:=gh EE t (nV M);revert e H G;cases gZ (t+1) with
 |ofNat b=>
  intro H Z e;have e:(match aL dO b with|some d=>iA 8 d (ia (t+1))&&(Nat.blt b 22&&wj 4 (ia (t+1)))|none=>false)=true:=e;cases q:aL dO b with
  |none=>rw [q] at e;exact nof e
  |some d=>rw [q] at e;exact af e fun x y=>af y fun y z=>H b rfl (q.trans (congrArg some (cZ x))) (dD y) z
 |negSucc n=>exact fun Z G e=>af e fun x y=>G (by rw [ie x]) (cZ y)
theorem jU {α:Type} {l x:List α} {d:α} (h:aL l i=some d):aL (l++x) i=some d:=by rw [aH] at h⊢;rw [uR (jy h).1];exact h
theorem Ea {R:Prop} {j:Nat} (H:1≤j) (G:j≤9) (f:∀k,mo j=k+1→k<9→R):R:=by
 unfold mo at f;by_cases a:j=1
 ·exact f 0 (bk a) aD
 ·by_cases b:j≤6
  ·exact f (j+2) (by rw [aS a,bk b]) (Oe H b G)
  ·exact f (j -6) (by rw [aS a,aS b];exact Og H G b) (Oh H G b)
theorem Gf {r j:Nat} (hr:r<4):∀d∈Lw r j,Pl d:=by
 unfold Lw;have ab:∀d∈abcd r,Pl d:=fun d hd=>by have:d∈[sS "A",sS "B",sS "C",sS "D"]:=List.mem_of_mem_take hd;simp only [List.mem_cons,List.not_mem_nil,or_false] at this;rcases this with rfl|rfl|rfl|rfl<;>rfl
 split
 ·exact ab
 ·split
  ·intro d hd;rw [(List.mem_replicate.mp hd).2];rfl
  ·split
   ·intro d hd;rw [(List.mem_replicate.mp hd).2];rfl
   ·exact fun d hd=>nomatch hd
theorem AS {σ:ah} {F:Nat} {d:DV} (h:d= .none∨∃r k,d= .aj r k):eqT σ (F+1) d d=true:=by
 show (AR d d||uc σ (eqT σ F) d d)=true;rcases h with rfl|⟨r,k,rfl⟩
 ·rfl
 ·show ((Nat.beq r r&&Nat.beq k k)||_)=true
  rw [Nat.beq_refl,Nat.beq_refl];rfl
structure uV (a:Ab):Prop where
 ns:∀p∈a.ns,cW a.ns p.1=some p.2∧Pl p.2
 as:∀d∈a.as,Pl d
 ts:∀p∈a.ts,p.2<4
theorem oM {q:DV→DV→Bool} {m:zD}:∀{l:zD},(∀p∈l,cW m p.1=some p.2∧q p.2 p.2=true)→kq q m l=true
 |[],_=>rfl
 |p::l,h=>aJ (h p (.head _)).1 (h p (.head _)).2 (oM fun x L=>h x (.tail _ L))
section
variable {I:zP} {n av x:Nat} {σ:ah} {ls l0:Lc} {e:ME} {b l:List MS}
set_option backward.match.sparseCases false in
theorem zC {kd:DV} (hs:bh kd= .s) (p:ao (fun r E Z=>∃d rr k t v l0,r= .v d∧aF ls x=some (.aj rr k)∧ja E rr=some t∧t.get k=some ⟨v,.dict .s l0⟩∧l0.length≤5000∧ao I (setC false E rr k v (.dict .s (aM l0 kd d)) fun σ=>run PG (n+1) false av (.ss l) σ ls)) (run PG (n+1) false av (.e e) σ ls)):ao I (run PG (n+2) false av (.ss (.cS (.l x) (.c kd) e::l)) σ ls):=by refine ao.aT (K:=fun r σ Z=>match r with| .v d=>bv (run PG (n+1) false av (.e (.l x)) σ ls) fun y σ=>bv (run PG (n+1) false av (.e (.c kd)) σ ls) fun x σ=>AU false σ y x d fun σ=>run PG (n+1) false av (.ss l) σ ls|_=> .no) (p.mono fun r E J h=>?_);obtain ⟨d,rr,k,t,v,l0,rfl,H,G,O,N,q⟩:=h;show ao I (bv (bo (aF ls x) fun d=> .ok (.v d) E ls) fun y σ=>AU false σ y kd d fun σ=>run PG (n+1) false av (.ss l) σ ls);rw [H];show ao I (.oc (ja E rr) k fun c=>match c.b with| .list J=>_| .dict j4 J=>_|_=> .no);rw [G];refine eN O ?_;show ao I (match KD.g9 (bh kd) .s with|true=> .br (some (small l0.length)) (setC false E rr k v (.dict .s (aM l0 kd d)) fun σ=>run PG (n+1) false av (.ss l) σ ls) .no|false=> .no);rw [hs,aB N];exact q
end
end
section
section
variable {n:Nat} {E C D F G H J K L Q U A:Rg} {Φ:zP} {a:Ab} {c t i:Nat} {e:Ex} {my:zL}
noncomputable abbrev JP (d:DV):Lc:=[(68,.aj 2 0),(90,.aj 1 8),(26,d)]
theorem xW (X:bZ VS jg (lA a e) D.t) (O:iW a e Q) (Y:bZ VM lP (nS a my) C.t) (M:Hy a my U) (B:dN c a) (hc:c≤8) (N:uV a) (hi:i<64+a.ts.length) (p:∀r,Φ (.f .next) [E,C,D,F,G,H,J,K,L,Q,U,r] (JP (I i))):ao Φ (run PG (n+60) false 11 (.ss nI) [E,C,D,F,G,H,J,K,L,Q,U,A] (JP (I i))):=by
 have hts:=B.ts;have P:=uC M;refine aA (dJ (j:=8) Y aD) fun v0 q0=>aA (dJ (j:=1) Y aD) fun v1 q1=>aA (cy (j:=0) X aD) fun v2 q2=>aA (cy (j:=13) X aD) fun v3 q3=>aA (cy (j:=1) X aD) fun v4 q4=>aA (cy (j:=2) X aD) fun v5 q5=>az O.ty fun x hx hn=>az M fun x' V hn'=>iZ O.rows fun xr hr g W=>?_;have g:xr.length≤1:=by rcases g with rfl|rfl<;>decide
 have hk:e.rows.length≤5000:=by rw [hr,fO];have:dO.length=22:=rfl;first|exact q9 this g|exact SI this
 have hk2:22≤e.rows.length:=by rw [hr,fO];have:dO.length=22:=rfl;first|exact q9 this g|exact SI this
 have m:(some !i.blt my.length)=some false:=aE.1 (Oi hi P);have T:=aB (n:=my.length) (iG P hc hts);have S:=aB (n:=i) (Oj hi P hc hts);by_cases R:i<64
 ·by_cases hz:i=0∨55<i
  ·exact WC q0 q1 T m q2 q3 S (by rw [hx];exact Et hz R) (by rw [V];exact Et hz R) (p _)
  ·obtain ⟨t,rfl⟩:∃t,i=t+1:=⟨i -1,by exact Ol R hz⟩
   have Z:t<55:=Om R hz;refine aA (X (t+1,0) ⟨Z,Nat.zero_le _⟩) fun v6 q=>aA (Y (t+1,0) ⟨Z,Nat.zero_le _⟩) fun v7 q7=>?_;have hl:∀{σ:ah} {r:Rg},σ=[E,C,D,F,G,H,J,K,L,Q,U,r]→∀j,1≤j→j≤9→eqT σ 8 (.aj 2 (8+10*(t+1)+mo j)) (.aj 1 (bT (t+1)+j))=true:=fun hσ j z s=>by
    subst hσ;refine Ea z s fun k hk o=>aA (iJ (j:=k) X Z o) fun u hu=>?_;obtain ⟨j',rfl⟩:∃j',j=j'+1:=⟨j -1,by exact Oo z s⟩
    refine aA (eK (j:=j') Y Z (Oq s z)) fun w hw=>?_;rw [hk] at hw⊢;exact iE hu hw (B.pl _ _)
   refine yP Z (fun b hb hd hb2 hp=>?_) fun hb hm=>?_
   ·have q:D.t.get (8+10*(t+1))=some (lK v6 2 (8+10*(t+1)) (t+1) (d8 (t+1)) (fq (t+1)) (m7 (t+1)) (gZ (t+1)) (a.cc (t+1)) (a.fin (t+1))):=q
    rw [hb] at q;refine WD q0 q1 T m q2 q3 S (by rw [hx];exact Bo Z) q q4 q5 (aB hk) (aE.1 (Ot hk2 hb2 hk)) (aB (Ou hb2)) (by rw [hr];exact jU hd) (by rw [V];exact Ak Z) ?_ (p _);exact qP (r:=2) (r':=1) (v:=0) (y:=8+10*(t+1)) (by show TC.get (.aq _ _ _) _=_;rw [TC.ay,bk rfl]) q7 hp (hl rfl)
   ·have q:D.t.get (8+10*(t+1))=some (lK v6 2 (8+10*(t+1)) (t+1) (d8 (t+1)) (fq (t+1)) (m7 (t+1)) (gZ (t+1)) (a.cc (t+1)) (a.fin (t+1))):=q
    have q7:C.t.get (bT (t+1))=some (n9 v7 1 (bT (t+1)) (t+1) (d8 (t+1)) (fq (t+1)) (m7 (t+1)) (ia (t+1)) (a.cc (t+1)) (a.fin (t+1))):=q7;rw [hb] at q;rw [hm] at q7;refine WB q0 q1 T m q2 q3 S (by rw [hx];exact Bo Z) q (by rw [V];exact Ak Z) ?_ (p _);exact qP (r:=2) (r':=1) (v:=0) (y:=8+10*(t+1)) (by show TC.get (.aq _ _ _) _=_;rw [TC.ay,bk rfl]) q7 rfl (hl rfl)
 ·obtain ⟨k,rfl⟩:∃k,i=64+k:=⟨i -64,by exact Ov R⟩
  have hkt:k<a.ts.length:=Ow hi P;have e1:=tD (l:=x) (i:=k) (by have:=hn.1;exact Jm hi P this);have e2:=tD (l:=x') (i:=k) (by have:=hn'.1;exact Jm hi P this);have e3:=tD (l:=a.ts) (i:=k) hkt;refine tZ (hn.2 k _ _ e1 e3) fun y u hy W hy1 Vi=>tZ (hn'.2 k _ _ e2 e3) fun y' u' hy' W Ng Nh=>?_;rw [hy] at e1;rw [hy'] at e2;refine Ww q0 q1 T m q2 q3 S (by rw [hx];exact Eu e1) hy1 q4 q5 (aB hk) (aE.1 (Ox hk2 hk)) (aB aD) (d:= .ai [I 2,I 2,.ai []]) (by rw [hr];exact jU cg) (by rw [V];exact Eu e2) ?_ (p _);refine qP (r:=9) (r':=10) (v:=0) (y:=y) (by show TC.get (.aq _ _ _) _=_;rw [TC.ay,bk rfl]) Ng rfl fun j z s=>Ea z s fun k' hk' o=>aA (Vi (k'+1) (Ji o) (Jj o)) fun w hw=>aA (Nh j z s) fun w' RU=>?_;rw [hk'] at RU⊢;exact iE hw RU (Gf (N.ts _ (List.getElem_mem hkt)))
end
end
section
theorem F3 {a:Ab} {u:zL} {h:Rg} (M:Hy a u h):∀d∈u,d= .none∨∃r k,d= .aj r k:=by
 refine az M fun x iY hn=>?_;subst iY;intro d hd;rcases jx hd with hd|hd
 ·refine az (List.mem_map.mp hd) fun t Z xm=>?_;subst xm
  split
  ·exact .inr ⟨_,_,rfl⟩
  ·exact .inl rfl
 ·obtain ⟨i,hi,rfl⟩:=List.mem_iff_getElem.mp hd
  refine dB (hn.2 i _ _ (tD hi) (tD (hn.1▸hi))) fun y v h Z=> .inr ⟨_,_,h⟩
theorem pe {Φ:zP} {r r':RR} (h:r=r') (p:ao Φ r'):ao Φ r:=h▸p
theorem J1 {a b:Bool} (h:b=true):(a||b)=true:=by rw [h,Bool.or_true]
theorem J4 {l:List Nat}:∀d∈l.map I,Pl d:=fun d hd=>by refine az (List.mem_map.mp hd) fun k Z xm=>?_;subst xm;rfl
section
variable {n:Nat} {E D F G H L J P R Q U A:Rg} {Φ:zP} {a:Ab} {c t i:Nat} {e:Ex} {u:zL}
noncomputable abbrev kF:DV:= .str ⟨⟨[102,105,101,108,100,115]⟩⟩
noncomputable abbrev kM:DV:= .str ⟨⟨[109,101,116,104,111,100,115]⟩⟩
noncomputable abbrev kT:DV:= .str ⟨⟨[116,121,112,101,115]⟩⟩
noncomputable abbrev kN:DV:= .str ⟨⟨[110,97,109,101,115]⟩⟩
noncomputable abbrev kA:DV:= .str ⟨⟨[97,115,109,115]⟩⟩
noncomputable abbrev kE:DV:= .str ⟨⟨[101,110,116,114,121]⟩⟩
noncomputable abbrev GG (q:Nat) (x:zD):CB:= .dict .s ((kT,.aj 11 q)::(kN,.aj 2 10)::(kA,.aj 2 11)::(kE,I 0)::x)
theorem CU (HS:eY a F Q) (HM:dz a D U) (B:dN c a) (w:c≤8) (N:uV a) (p:∀r,Φ (.v (.bool true)) [E,D,F,G,H,L,J,P,R,Q,U,r] []):ao Φ (run PG (n+400) false 11 (.call 716 [.aj 2 0,.aj 1 8]) [E,D,F,G,H,L,J,P,R,Q,U,A] []):=by
 refine az HS fun e X O=>az HM fun u Y M=>?_;have hts:=B.ts;have Z:=uC M;refine aA (dJ (j:=8) Y aD) fun v0 q0=>aA (dJ (j:=1) Y aD) fun v1 q1=>aA (cy (j:=0) X aD) fun v2 q2=>aA (cy (j:=13) X aD) fun v3 q3=>aA (cy (j:=15) X aD) fun v4 q4=>aA (cy (j:=17) X aD) fun v5 q5=>?_;have V:e.ty.length=64+a.ts.length:=by refine az O.ty fun x hx hn=>?_;rw [hx,fO,hn.1];rfl
 refine zF (mf:=fC) (bs:=[(68,.aj 2 0),(90,.aj 1 8)]) cg rfl rfl ?_;rw [show fC.body=[.cj 26 (c8 0) nI,.b7 96 (c8 1),.cS (.l 96) (.c kF) (.comp [97] (c8 2) false (.bX (.l 68) 62) none []),.cS (.l 96) (.c kM) (.comp [75] (c8 3) false (.bX (.l 68) 39) none []),.ret (some (c8 4))] from cg];refine rW (n:=n+398) (WA (n:=n+368) q2 q3 (aB (Jo Z V w hts)) ⟨_,rfl,by exact Jo Z V w hts,?_⟩);obtain ⟨m,hm⟩:∃m,n+398=e.ty.length+60+m+1:=⟨n+337 -e.ty.length,by exact Oz Z V w hts⟩
 have T:=lV (Ψ:=Lg (fun r g x=>match r with| .f fl=>(match fl with| .next=>Φ (.v .none) g []| .ret d=>Φ (.v d) g [])| .x=>Φ .y g []| .z d=>Φ (.z d) g []|_=>False) (n+398) 11 [.b7 96 (c8 1),.cS (.l 96) (.c kF) (.comp [97] (c8 2) false (.bX (.l 68) 62) none []),.cS (.l 96) (.c kM) (.comp [75] (c8 3) false (.bX (.l 68) 39) none []),.ret (some (c8 4))]) (x:=26) (b:=nI) (av:=11) (K:=60) (tot:=e.ty.length) (N:=e.ty.length) (i:=0) (m:=m) (σ:=[E,D,F,G,H,L,J,P,R,Q,U,A]) (ls:=[(68,.aj 2 0),(90,.aj 1 8)])
  (Iv:=fun i σ ls=>(∃r,σ=[E,D,F,G,H,L,J,P,R,Q,U,r])∧((i=0∧ls=[(68,.aj 2 0),(90,.aj 1 8)])∨∃d,ls=JP d)) (fun i σ ls m hi h=>by
   obtain ⟨⟨r,rfl⟩,h⟩:=h;have e1:aV ls 26 (I i)=JP (I i):=by rcases h with ⟨_,rfl⟩|⟨d,rfl⟩<;>rfl
   rw [e1];exact xW X O Y M B w N (OA hm hi Z V) fun r=>⟨rfl,⟨_,rfl⟩,.inr ⟨_,rfl⟩⟩) CD ⟨⟨_,rfl⟩,.inl ⟨rfl,rfl⟩⟩ fun σ ls h=>?_
 ·rw [←hm] at T;exact T
 obtain ⟨⟨S,rfl⟩,h⟩:=h;obtain ⟨d,rfl⟩:∃d,ls=JP d:=h.resolve_left fun z=>by omega
 refine k8 (n:=n+397) (Wx (n:=n+367) q0 q2 q3 (aB (OB hm Z V w hts)) q1 (aB (OC hm Z V w hts)) ⟨_,rfl,?_⟩);show ao _ (run PG (n+397) false 11 _ [E,D,F,G,H,L,J,P,R,Q,U,⟨S.n+2,.aq (S.n+1) ⟨0,GG S.n []⟩ (.aq S.n ⟨0,.list (u.take e.ty.length)⟩ S.t)⟩] [(68,.aj 2 0),(90,.aj 1 8),(26,d),(96,.aj 11 (S.n+1))]);refine zC (n:=n+395) cg (zG (n:=n+395) rfl (Wy (n:=n+365) q2 ⟨_,_,_,_,rfl,q4,Wq O.fl.1 B.fs.2 w,?_⟩));obtain ⟨m1,hm1⟩:∃m,n+395=e.fl.length+30+m+1:=⟨n+364 -e.fl.length,Wr O.fl.1 B.fs.2 w⟩
 have C:=IT (x:=97) (elt:=c8 2) (K:=30) (av:=11) (σ:=[E,D,F,G,H,L,J,P,R,Q,U,⟨S.n+2,.aq (S.n+1) ⟨0,GG S.n []⟩ (.aq S.n ⟨0,.list (u.take e.ty.length)⟩ S.t)⟩]) (rr:=2) (k:=15) (fun W W h=>h) q4 (ds:=e.fl) (vs:=a.fs.map I) (m:=m1) (ls:=[]) (.inl rfl) (uD (fun d o h m Φ p=>by
  rcases h with ⟨rfl,rfl⟩|⟨_,y,v,b,as,rfl,_,hy⟩
  ·exact WG (n:=m) p
  ·exact WH (n:=m) hy p) O.fl)
 rw [←hm1] at C;refine C.mono fun r g l' h=>aZ h fun xj iY=>?_;subst xj;subst iY;refine ⟨_,_,rfl,by rw [List.length_map];have:=B.fs;exact OD this w,rfl,_,11,_,_,0,_,rfl,rfl,rfl,(by show TC.get (.aq (S.n+2) _ (.aq (S.n+1) _ _)) (S.n+1)=_;rw [TC.ay,aS OE,TC.ay,bk rfl]),(by show 4≤5000;decide),?_⟩;refine pe (r':=run PG (n+396) false 11 (.ss [.cS (.l 96) (.c kM) (.comp [75] (c8 3) false (.bX (.l 68) 39) none []),.ret (some (c8 4))]) [E,D,F,G,H,L,J,P,R,Q,U,⟨S.n+3,.aq (S.n+1) ⟨1,.dict .s (aM [(kT,.aj 11 S.n),(kN,.aj 2 10),(kA,.aj 2 11),(kE,I 0)] kF (.aj 11 (S.n+2)))⟩ (.aq (S.n+2) ⟨0,.list (a.fs.map I)⟩ (.aq (S.n+1) ⟨0,GG S.n []⟩ (.aq S.n ⟨0,.list (u.take e.ty.length)⟩ S.t)))⟩] [(68,.aj 2 0),(90,.aj 1 8),(26,d),(96,.aj 11 (S.n+1))]) cg ?_;rw [show aM [(kT,DV.aj 11 S.n),(kN,.aj 2 10),(kA,.aj 2 11),(kE,I 0)] kF (.aj 11 (S.n+2))=[(kT,.aj 11 S.n),(kN,.aj 2 10),(kA,.aj 2 11),(kE,I 0),(kF,.aj 11 (S.n+2))] from cg];refine zC (n:=n+394) cg (zG (n:=n+394) rfl (Wz (n:=n+364) q2 ⟨_,_,_,_,rfl,q5,Ws O.ml.1 B.ms.2 w,?_⟩));obtain ⟨m2,hm2⟩:∃m,n+394=e.ml.length+30+m+1:=⟨n+363 -e.ml.length,Wt O.ml.1 B.ms.2 w⟩
 have C2:=IT (x:=75) (elt:=c8 3) (K:=30) (av:=11) (σ:=[E,D,F,G,H,L,J,P,R,Q,U,⟨S.n+3,.aq (S.n+1) ⟨1,GG S.n [(kF,.aj 11 (S.n+2))]⟩ (.aq (S.n+2) ⟨0,.list (a.fs.map I)⟩ (.aq (S.n+1) ⟨0,GG S.n []⟩ (.aq S.n ⟨0,.list (u.take e.ty.length)⟩ S.t)))⟩]) (rr:=2) (k:=17) (fun W W h=>h) q5 (ds:=e.ml) (vs:=a.ms.map I) (m:=m2) (ls:=[]) (.inl rfl) (uD (fun d o h m Φ p=>by
  rcases h with ⟨rfl,rfl⟩|⟨_,y,v,b,as,rfl,_,hy⟩
  ·exact WM (n:=m) p
  ·exact WN (n:=m) hy p) O.ml)
 rw [←hm2] at C2;refine C2.mono fun r g l' h=>aZ h fun xj iY=>?_;subst xj;subst iY;refine ⟨_,_,rfl,by rw [List.length_map];have:=B.ms;exact OG this w,rfl,_,11,_,_,1,_,rfl,rfl,rfl,(by show TC.get (.aq (S.n+3) _ (.aq (S.n+1) _ _)) (S.n+1)=_;rw [TC.ay,aS OH,TC.ay,bk rfl]),(by show 5≤5000;decide),?_⟩;refine pe (r':=run PG (n+395) false 11 (.ss [.ret (some (c8 4))]) [E,D,F,G,H,L,J,P,R,Q,U,⟨S.n+4,.aq (S.n+1) ⟨2,.dict .s (aM [(kT,.aj 11 S.n),(kN,.aj 2 10),(kA,.aj 2 11),(kE,I 0),(kF,.aj 11 (S.n+2))] kM (.aj 11 (S.n+3)))⟩ (.aq (S.n+3) ⟨0,.list (a.ms.map I)⟩ (.aq (S.n+1) ⟨1,GG S.n [(kF,.aj 11 (S.n+2))]⟩ (.aq (S.n+2) ⟨0,.list (a.fs.map I)⟩ (.aq (S.n+1) ⟨0,GG S.n []⟩ (.aq S.n ⟨0,.list (u.take e.ty.length)⟩ S.t)))))⟩] [(68,.aj 2 0),(90,.aj 1 8),(26,d),(96,.aj 11 (S.n+1))]) cg ?_;rw [show aM [(kT,DV.aj 11 S.n),(kN,.aj 2 10),(kA,.aj 2 11),(kE,I 0),(kF,.aj 11 (S.n+2))] kM (.aj 11 (S.n+3))=[(kT,.aj 11 S.n),(kN,.aj 2 10),(kA,.aj 2 11),(kE,I 0),(kF,.aj 11 (S.n+2)),(kM,.aj 11 (S.n+3))] from cg];refine D0 (n:=n+394) (WE (n:=n+364) ?_ ⟨_,rfl,p _⟩);refine aA (dJ (j:=2) Y aD) fun v6 q6=>aA (dJ (j:=3) Y aD) fun v7 q7=>aA (dJ (j:=5) Y aD) fun v8 q8=>aA (dJ (j:=7) Y aD) fun v9 q9=>aA (cy (j:=10) X aD) fun w0 p0=>aA (cy (j:=11) X aD) fun w1 p1=>?_;have ov:∀{i j:Nat} {c:Cell} {t:TC} {o:Option Cell},j≠i→t.get j=o→(TC.aq i c t).get j=o:=fun h e=>by rw [TC.ay,aS h];exact e
 have Lx:∀{i:Nat} {c:Cell} {t:TC},(TC.aq i c t).get i=some c:=by intros;rw [TC.ay,bk rfl]
 refine zl (qa (kd:= .s) (v:=2) rfl Lx q0 rfl ?_);have tk:u.take e.ty.length=u:=List.take_of_length_le (OI Z V);refine aJ (d:= .aj 1 1) cg (sA ?_)<|aJ (d:= .aj 1 2) cg ?_<|aJ (d:= .aj 1 3) cg (sA (iE p1 q7 N.as))<|aJ (d:=I 0) cg (sA (m6 rfl))<|aJ (d:= .aj 1 5) cg (sA (iE (v:=0) (l:=a.fs.map I) ?_ q8 J4))<|aJ (d:= .aj 1 7) cg (sA (iE (v:=0) (l:=a.ms.map I) ?_ q9 J4)) rfl
 ·refine J1 (lR (v:=0) (l:=u.take e.ty.length) (m:=u) ?_ q1 ?_)
  ·exact ov FF (ov OJ (ov FF (ov OM (ov FF Lx))))
  ·rw [tk];exact dj fun d hd=>AS (F3 M d hd)
 ·refine (Bool.or_eq_true _ _).mpr (.inr ?_)
  exact qa (kd:= .n) rfl p0 q6 rfl (oM fun p hp=>⟨(N.ns p hp).1,m6 (N.ns p hp).2⟩)
 ·exact ov Jp (ov ON (ov Jp Lx))
 ·exact ov OO Lx
end
end
section
variable {x:DV}
theorem oA {q:DV→DV→Option Bool}:∀{l:zL},(∀d∈l,q d d=some true)→gk q l l=some true
 |[],_=>rfl
 |d::l,h=>by show (match q d d with|some x=>(match gk q l l with|some y=>some (x&&y)|none=>none)|none=>none)=_;rw [h d (.head _),oA fun e he=>h e (.tail _ he)];rfl
theorem rG:∀{F f:Nat} {d:DV},f≤F→wj f d=true→h_ F d d=some true
 |F,0,_,_,h=>nof h
 |0,f+1,_,h,_=>absurd h (Nat.not_succ_le_zero _)
 |F+1,f+1,d,hf,h=>by
  cases d with
  |none=>rfl
  |int i=>exact congrArg some (bJ.trans (gH rfl))
  |str s=>exact congrArg some (b9.trans (gH rfl))
  |ai l=>exact oA fun d hd=>rG (Nat.le_of_succ_le_succ hf) (gh h d hd)
  |_=>exact nof h
theorem vj {q:DV→DV→Option Bool}:∀{l k:zL},(∀a∈l,∀b,q a b=some true→a=b)→gk q l k=some true→l=k
 |[],[],_,_=>rfl
 |[],_::_,_,h=>nof (bw h)
 |_::_,[],_,h=>nof (bw h)
 |a::l,b::k,f,h=>by
  have h:(match q a b with|some x=>(match gk q l k with|some y=>some (x&&y)|none=>none)|none=>none)=some true:=h;cases x:q a b with
  |none=>rw [x] at h;exact aW h
  |some x'=>
   rw [x] at h;have h:(match gk q l k with|some y=>some (x'&&y)|none=>none)=some true:=h;cases y:gk q l k with
   |none=>rw [y] at h;exact aW h
   |some y'=>rw [y] at h;refine af (bw h) fun H G=>?_;rw [H] at x;rw [G] at y;rw [f a (.head _) b x,vj (fun a C=>f a (.tail _ C)) y]
theorem y_:∀{F f:Nat} {d e:DV},wj f d=true→h_ F d e=some true→d=e
 |_,0,_,_,h,_=>nof h
 |0,_+1,_,_,_,h=>aW h
 |F+1,f+1,d,e,hd,h=>by
  cases d with
  |none=>cases e<;>first|rfl|exact nof (bw h)|exact aW h
  |int i=>cases e with
   |int j=>exact congrArg DV.int (dR (bJ.symm.trans (bw h)))
   |_=>first|exact nof (bw h)|exact aW h
  |str i=>cases e with
   |str j=>exact congrArg DV.str (dR (b9.symm.trans (bw h)))
   |_=>first|exact nof (bw h)|exact aW h
  |ai l=>cases e with
   |ai k=>exact congrArg DV.ai (vj (fun a C b=>y_ (gh hd a C)) h)
   |_=>first|exact nof (bw h)|exact aW h
  |_=>exact nof hd
theorem jh {v:DV}:∀{l:zD},aY l x=some none→aM l x v=l++[(x,v)]
 |[],_=>rfl
 |p::l,h=>by
  show (match i_ p.1 x with|some b=>(match b with|true=>(p.1,v)::l|false=>p::aM l x v)|none=>p::aM l x v)=_;rw [kh] at h;cases e:i_ p.1 x with
  |none=>rw [e] at h;exact aW h
  |some b=>
   rw [e] at h;cases b with
   |true=>exact aW (bw h).symm
   |false=>exact congrArg (p::·) (jh h)
theorem oF {m:zD}:∀{l:zD},aY l x=some none→aY (l++m) x=aY m x
 |[],h=>rfl
 |p::l,h=>by
  rw [List.cons_append,kh];rw [kh] at h;cases e:i_ p.1 x with
  |none=>rw [e] at h;exact aW h
  |some b=>
   rw [e] at h;cases b with
   |true=>exact aW (bw h).symm
   |false=>exact oF h
theorem zb {l:zD} {d:DV} (h:cW l x=some d):aY l x=some (some d):=by
 have h:(match aY l x with|some o=>o|none=>none)=some d:=h;cases e:aY l x with
 |none=>rw [e] at h;exact aW h
 |some o=>rw [e] at h;exact congrArg some h
theorem rH {l:zD} {d:DV} (h:aY l x=some (some d)):cW l x=some d:=by show (match aY l x with|some o=>o|none=>none)=some d;rw [h]
theorem z7 (h:j7 x):i_ x x=some true:=by refine t9 h fun m s k D=>?_;subst D;exact rG (f:=4) aD rfl
theorem uV.eO {a:Ab} {c op ak i:Nat} (N:uV a) (B:dN c a) (ho:op<12):uV (eO a op ak i).1:=by
 refine jV ho ?_ ?_ ?_ ?_ ?_ ?_ ?_ ?_ ?_ ?_ ?_ ?_
 ·show uV (match aL [I 7,I 13] (i%2) with|some d=>(a.bz ak 1 (once (a.l ak 1) d),I 0)|none=>(a,I 0)).1
  cases aL [I 7,I 13] (i%2)
  ·exact N
  ·exact ⟨N.ns,N.as,N.ts⟩
 ·exact ⟨N.ns,N.as,N.ts⟩
 ·exact ⟨N.ns,N.as,N.ts⟩
 ·exact ⟨N.ns,N.as,N.ts⟩
 ·exact ⟨N.ns,N.as,N.ts⟩
 ·have hk:j7 (.ai [I 0,.str (d8 ak),I (i%4)]):=⟨_,_,_,rfl⟩
  refine ⟨?_,N.as,fun p A=>(jx A).elim (N.ts p) fun z=>by rw [nW z];exact Nat.mod_lt _ aD⟩;refine aA (iz hk B.ns.1) fun b hb=>?_;show ∀p∈lz a.ns _ _,cW (lz a.ns _ _) p.1=some p.2∧Pl p.2;cases b with
  |true=>rw [pN hb];exact N.ns
  |false=>
   rw [pM hb];have E:aY a.ns (.ai [I 0,.str (d8 ak),I (i%4)])=some none:=by
    cases e:aY a.ns (.ai [I 0,.str (d8 ak),I (i%4)]) with
    |none=>rw [e] at hb;exact aW hb
    |some o=>cases o with
     |none=>rfl
     |some d=>rw [e] at hb;exact nof (bw hb).symm
   rw [jh E];intro p A;rcases jx A with A|A
   ·exact ⟨rH (jG (zb (N.ns p A).1)),(N.ns p A).2⟩
   ·cases nW A
    refine ⟨rH ((oF E).trans ?_),rfl⟩;rw [kh,z7 hk]
 ·exact ⟨N.ns,fun d hd=>(jx hd).elim (N.as d) fun z=>by rw [nW z];rfl,N.ts⟩
 ·exact ⟨N.ns,N.as,N.ts⟩
 ·exact ⟨N.ns,N.as,N.ts⟩
 ·exact ⟨N.ns,N.as,N.ts⟩
 ·exact fY (P:=fun x=>uV x.1) B.fs.1 (fun Z=>N) (fun Z Z=>N) (fun Z Z Z Z Z Z=>N) (fun Z Z Z=>⟨N.ns,N.as,N.ts⟩) fun Z Z Z Z=>⟨N.ns,N.as,N.ts⟩
 ·exact fY (P:=fun x=>uV x.1) B.ms.1 (fun Z=>N) (fun Z Z=>N) (fun Z Z Z Z Z Z=>N) (fun Z Z Z=>⟨N.ns,N.as,N.ts⟩) fun Z Z Z Z=>⟨N.ns,N.as,N.ts⟩
theorem CG {row:DV} (hr:Pl row) {l:zL}:∀{n:Nat},(∀d∈l,Pl d)→(∃p,l[p]?=some row∧aY (iI n l) row=some (some (I (n+p))))∨aY (iI n l) row=some none:=by
 induction l with
 |nil=>intro Z Z;exact .inr rfl
 |cons d l ih=>
  intro n h;refine aA (pW (F:=8) aD (h d (.head _)) hr) fun b hb=>?_;have e:aY (iI n (d::l)) row=match i_ d row with|some b=>(match b with|true=>some (some (I n))|false=>aY (iI (n+1) l) row)|none=>none:=rfl
  rw [e,show i_ d row=some b from hb];cases b with
  |true=>exact .inl ⟨0,congrArg some (y_ (h d (.head _)) hb),rfl⟩
  |false=>exact (ih (n:=n+1) fun d hd=>h d (.tail _ hd)).imp (fun ⟨p,a,b⟩=>⟨p+1,a,b.trans (by rw [show n+1+p=n+(p+1) by exact QI])⟩) id
end
noncomputable def Di (l:List MS) (i:Nat):MS:=match aL l i with
 |some m=>m
 |none=> .bad
noncomputable def i8 (m:MS):List MS:=match m with
 | .cj _ _ b=>b
 | .iff _ b _=>b
 |_=>[]
noncomputable def LC (m:MS):ME:=match m with
 | .cj _ e _=>e
 | .b7 _ e=>e
 | .ret e=>match e with
  |some e=>e
  |none=> .bad
 |_=> .bad
noncomputable abbrev cI (i:Nat):MS:=Di gx.body i
noncomputable abbrev l_ (i:Nat):MS:=Di fV.body i
noncomputable abbrev tK (s v:Nat):Cell:=⟨v,.inst 79 [(6,.aj s 2),(7,.aj s 3),(8,.aj s 4),(9,.aj s 5),(10,.aj s 6)]⟩
@[elab_as_elim] theorem vQ {P:List Nat→Prop} {ks:List Nat} (h:ks.length≤3) (D:P []) (C:∀a,P [a]) (B:∀a b,P [a,b]) (A:∀a b c,P [a,b,c]):P ks:=by
 cases ks with
 |nil=>exact D
 |cons a ks=>cases ks with
  |nil=>exact C a
  |cons b ks=>cases ks with
   |nil=>exact B a b
   |cons c ks=>cases ks with
    |nil=>exact A a b c
    |cons d ks=>exact absurd (Nat.le_of_succ_le_succ (Nat.le_of_succ_le_succ (Nat.le_of_succ_le_succ h))) (Nat.not_succ_le_zero _)
section
noncomputable abbrev fF (q:Nat) (t:DV) (B:Nat) (c:DV) (l:Lc):Lc:=(68,.aj 6 q)::(90,.aj 1 8)::(24,t)::(12,.aj 1 B)::(4,c)::l
noncomputable abbrev fK (t:DV) (y c:Nat) (l:Lc):Lc:=(68,.aj 3 0)::(24,t)::(73,.aj 3 y)::(22,.aj 6 c)::l
section
variable {n:Nat} {E C D F G H J K L Q U A:Rg} {q i k ak cn c:Nat} {v0 v1 v2 v3 v4 v5 v6 v7 v8 v9 u0 u1 u2 u3 u4 u5:Nat} {ty my rows dp wt op ps pb as:zL} {ki ns:zD} {aK:Str} {so fg ba cc fin:Int} {mb d ab:DV} {B y b c2 Bd:Nat} {Am:Str} {KH IE Ib fin2:Int} {BC:DV} {l:List MS} {ls:Lc} {k0 k1 k2 i0 i1 i2:Nat} {R:zP} {σ:ah}
theorem TH (m:Ge C 8 (xM u0)) (Y:Gl C 1 u1 my) (g:Sm ak) (P:aL my ak=some (.aj 1 B)) (V:Ge C B (n9 u2 1 B ak aK so fg mb cc fin)) (T:Gl C (B+7) u3 ps) (h:Sm ps.length) (a:Ge J q ⟨u5,.var (some (.aj 3 0))⟩) (o:Ge F 0 (stC v0 3)) (N:Gl F 11 v9 [.str ⟨⟨[99,111,114,101]⟩⟩]) (M:Ge F 10 ⟨v8,.dict .n ns⟩) (Z:b8 ns (.ai [I 0,.str aK,I (ps.length)]) (I 0)=some (I ak)) (O:So (Nat.blt 0 ak)) (S:Sn (!ak.beq ak)) (p:ao R (run PG (n+57) false 6 (.ss l) (cl E C D F G H J K L Q U A) (fF q (I ak) B (I (ps.length)) []))):ao R (run PG (n+60) false 6 (.ss (bB 0::bB 1::bB 2::l)) (cl E C D F G H J K L Q U A) [(68,.aj 6 q),(90,.aj 1 8),(24,I ak)]):=dw [.c m,.s 1,.c Y,.b g,.d P,.c V,.s 1,.c T,.b h,.c a,.c V,.s 1,.c o,.c N,.s 2,.c o,.c M,.s 1,.c M,.d Z,.b O,.b S] p
theorem WI (m:n7 PG (I ak) (.fn 48)=some false) (Y:Ge F 0 (stC v0 3)) (g:Gl F 13 v7 ty) (P:Sm ak) (V:aL ty ak=some (.aj 3 y)) (p:ao R (run PG (n+57) false 6 (.ss l) (cl E C D F G H ⟨J.n+1,.aq J.n ⟨0,.list []⟩ J.t⟩ K L Q U A) (fK (I ak) y J.n []))):ao R (run PG (n+60) false 6 (.ss (l_ 0::l_ 1::l_ 2::l)) (cl E C D F G H J K L Q U A) [(68,.aj 3 0),(24,I ak)]):=dw [.b m,.c Y,.c g,.b P,.d V,.s 1] p
theorem WJ (m:Ge F y (lK u2 3 y ak aK so fg ba cc fin)) (Y:Gl F (y+2) u3 ps) (g:Sm ps.length) (p:R (.v (I (ps.length))) (cl E C D F G H J K L Q U A) (fK (I ak) y c [])):ao R (run PG (n+60) false 6 (.e (LC (l_ 3))) (cl E C D F G H J K L Q U A) (fK (I ak) y c [])):=dw [.c m,.c Y,.b g] p
section
variable (m:Gl J c u4 as) (Y:Ge F 0 (stC v0 3)) (g:Ge F 1 (tK 3 v1)) (P:Ge F 3 ⟨v3,.dict .r ki⟩)
include m Y g P
theorem WL (V:b8 ki (.ai [I 6,I i]) (.int (.negSucc 0))=some (I k)) (T:Sm as.length) (p:R (.f .next) ((cl E C D F G H ⟨J.n,ov c u4 (as++[I k]) J.t⟩ K L Q U A)) (fK (I ak) y c [(67,I i)])):ao R (run PG (n+60) false 6 (.ss (i8 (l_ 3))) (cl E C D F G H J K L Q U A) (fK (I ak) y c [(67,I i)])):=dw [.c m,.c Y,.c g,.s 1,.c g,.c P,.c P,.d V,.s 1,.c m,.b T] p
theorem WK (V:b8 ki (.ai [I 6,I i]) (.int (.negSucc 0))=some (.int (.negSucc 0))) (T:Gl F 2 v2 rows) (h:Sm rows.length) (a:Sm ki.length) (o:Gl F 4 v4 dp) (N:Sm dp.length) (M:Gl F 5 v5 wt) (Z:Sm wt.length) (O:Gl F 6 v6 op) (S:Sm op.length) (u:Sm as.length) (p:R (.f .next) ((cl E C D ⟨F.n,ov 6 v6 (op++[I 1]) (ov 5 v5 (wt++[I 1]) (ov 4 v4 (dp++[I 1]) (.aq 3 ⟨v3+1,.dict .r (aM ki (.ai [I 6,I i]) (I (rows.length)))⟩ (ov 2 v2 (rows++[DV.ai [I 6,I i]]) F.t))))⟩ G H ⟨J.n,ov c u4 (as++[I (rows.length)]) J.t⟩ K L Q U A)) (fK (I ak) y c [(67,I i)])):ao R (run PG (n+60) false 6 (.ss (i8 (l_ 3))) (cl E C D F G H J K L Q U A) (fK (I ak) y c [(67,I i)])):=dw [.c m,.c Y,.c g,.s 1,.c g,.c P,.c P,.d V,.s 56,.c g,.c T,.b h,.c g,.c T,.c T,.b h,.k [.t] g,.k [.t] P,.b a,.k [.t,.t] g,.k [.t,.t] o,.k [.t,.t] o,.b N,.k [.t,.t,.t] g,.k [.t,.t,.t] M,.k [.t,.t,.t] M,.b Z,.k [.t,.t,.t,.t] g,.k [.t,.t,.t,.t] O,.k [.t,.t,.t,.t] O,.b S,.c m,.b u] p
end
section
variable (m:Gl J c u4 []) (Y:Ge F 0 (stC v0 3)) (g:Gl F 13 v7 ty) (P:Sm ak) (V:aL ty ak=some (.aj 3 y)) (T:Ge F y (lK u2 3 y ak aK so fg ba cc fin)) (h:Sn (ck so (Int.ofNat 2))) (a:Sn (ck so (Int.ofNat 5))) (o:n7 PG (I ak) (.fn 48)=some false) (N:Ge F 1 (tK 3 v1)) (M:Ge F 3 ⟨v3,.dict .r ki⟩)
include m Y g P V T h a o N M
theorem J_ (Z:b8 ki (.ai [I 2,I ak,.ai []]) (.int (.negSucc 0))=some (I k)) (p:R (.f (Fl.ret (I k))) (cl E C D F G H J K L Q U A) (fK (I ak) y c [])):ao R (run PG (n+90) false 6 (.ss [l_ 4]) (cl E C D F G H J K L Q U A) (fK (I ak) y c [])):=dw [.c m,.s 1,.c Y,.c g,.b P,.d V,.c T,.b h,.b a,.c Y,.b o,.c N,.s 1,.c N,.c M,.c M,.d Z,.s 1] p
theorem J9 (Z:b8 ki (.ai [I 2,I ak,.ai []]) (.int (.negSucc 0))=some (.int (.negSucc 0))) (O:Sn (!Nat.blt 0 ak)) (S:Gl F 2 v2 rows) (u:Sm rows.length) (X:Sm ki.length) (w:Gl F 4 v4 dp) (gM:Sm dp.length) (j:Gl F 5 v5 wt) (z:Sm wt.length) (x:Gl F 6 v6 op) (h21:Sm op.length) (p:R (.f (Fl.ret (I (rows.length)))) ((cl E C D ⟨F.n,ov 6 v6 (op++[I 0]) (ov 5 v5 (wt++[I 1]) (ov 4 v4 (dp++[I 1]) (.aq 3 ⟨v3+1,.dict .r (aM ki (.ai [I 2,I ak,.ai []]) (I (rows.length)))⟩ (ov 2 v2 (rows++[DV.ai [I 2,I ak,.ai []]]) F.t))))⟩ G H J K L Q U A)) (fK (I ak) y c [])):ao R (run PG (n+90) false 6 (.ss [l_ 4]) (cl E C D F G H J K L Q U A) (fK (I ak) y c [])):=dw [.c m,.s 1,.c Y,.c g,.b P,.d V,.c T,.b h,.b a,.c Y,.b o,.c N,.s 1,.c N,.c M,.c M,.d Z,.s 23,.b O,.s 2,.b o,.s 20,.c N,.c S,.b u,.c N,.c S,.c S,.b u,.k [.t] N,.k [.t] M,.b X,.k [.t,.t] N,.k [.t,.t] w,.k [.t,.t] w,.b gM,.k [.t,.t,.t] N,.k [.t,.t,.t] j,.k [.t,.t,.t] j,.b z,.k [.t,.t,.t,.t] N,.k [.t,.t,.t,.t] x,.k [.t,.t,.t,.t] x,.b h21] p
end
section
variable (m:Gl J c u4 [I k0]) (Y:Ge F 0 (stC v0 3)) (g:Gl F 13 v7 ty) (P:Sm ak) (V:aL ty ak=some (.aj 3 y))
include m Y g P V
section
variable (T:Ge F y (lK u2 3 y ak aK so fg ba cc fin)) (h:Sn (ck so (Int.ofNat 2))) (a:Sn (ck so (Int.ofNat 5))) (o:n7 PG (I ak) (.fn 48)=some false) (N:Ge F 1 (tK 3 v1)) (M:Ge F 3 ⟨v3,.dict .r ki⟩)
include T h a o N M
theorem Ka (Z:b8 ki (.ai [I 2,I ak,.ai [I k0]]) (.int (.negSucc 0))=some (I k)) (p:R (.f (Fl.ret (I k))) (cl E C D F G H J K L Q U A) (fK (I ak) y c [(67,d)])):ao R (run PG (n+90) false 6 (.ss [l_ 4]) (cl E C D F G H J K L Q U A) (fK (I ak) y c [(67,d)])):=dw [.c m,.s 1,.c Y,.c g,.b P,.d V,.c T,.b h,.b a,.c Y,.b o,.c N,.s 1,.c N,.c M,.c M,.d Z,.s 1] p
theorem J' (Z:b8 ki (.ai [I 2,I ak,.ai [I k0]]) (.int (.negSucc 0))=some (.int (.negSucc 0))) (O:Gl F 2 v2 rows) (S:Sm rows.length) (u:Sn (!k0.blt rows.length)) (X:Sm k0) (w:aL rows k0=some (.ai [I 6,I i0])) (gM:Sn (!Nat.blt 0 ak)) (j:Sn (k0.beq 0)) (z:Sn (k0.beq 14)) (x:Gl F 4 v4 dp) (h21:aL dp k0=some (I 1)) (h22:Gl F 5 v5 wt) (h23:aL wt k0=some (I 1)) (xA:Gl F 6 v6 op) (um:aL op k0=some (I 1)) (BE:Sm ki.length) (yp:Sm dp.length) (IP:Sm wt.length) (DW:Sm op.length) (p:R (.f (Fl.ret (I (rows.length)))) ((cl E C D ⟨F.n,ov 6 v6 (op++[I 1]) (ov 5 v5 (wt++[I 2]) (ov 4 v4 (dp++[I 2]) (.aq 3 ⟨v3+1,.dict .r (aM ki (.ai [I 2,I ak,.ai [I k0]]) (I (rows.length)))⟩ (ov 2 v2 (rows++[DV.ai [I 2,I ak,.ai [I k0]]]) F.t))))⟩ G H J K L Q U A)) (fK (I ak) y c [(67,d)])):ao R (run PG (n+90) false 6 (.ss [l_ 4]) (cl E C D F G H J K L Q U A) (fK (I ak) y c [(67,d)])):=dw [.c m,.s 1,.c Y,.c g,.b P,.d V,.c T,.b h,.b a,.c Y,.b o,.c N,.s 1,.c N,.c M,.c M,.d Z,.s 20,.c N,.s 1,.c N,.c O,.b S,.b u,.c N,.c O,.b X,.d w,.s 3,.b gM,.s 2,.b o,.s 3,.b j,.b z,.c N,.s 1,.c N,.c O,.b S,.b u,.c N,.c O,.b X,.d w,.s 22,.c N,.c x,.b X,.d h21,.s 1,.c N,.c x,.b X,.d h21,.c N,.c h22,.b X,.d h23,.c N,.c xA,.b X,.d um,.s 3,.c N,.c O,.b S,.c N,.c O,.c O,.b S,.k [.t] N,.k [.t] M,.b BE,.k [.t,.t] N,.k [.t,.t] x,.k [.t,.t] x,.b yp,.k [.t,.t,.t] N,.k [.t,.t,.t] h22,.k [.t,.t,.t] h22,.b IP,.k [.t,.t,.t,.t] N,.k [.t,.t,.t,.t] xA,.k [.t,.t,.t,.t] xA,.b DW] p
end
section
variable (T:Ge F y (lK u2 3 y ak aK (.ofNat 2) fg ba cc fin)) (h:n7 PG (I ak) (.fn 48)=some false) (a:Ge F 1 (tK 3 v1)) (o:Ge F 3 ⟨v3,.dict .r ki⟩)
include T h a o
theorem Kw (N:b8 ki (.ai [I 3,I ak,.ai [I k0]]) (.int (.negSucc 0))=some (I k)) (p:R (.f (Fl.ret (I k))) (cl E C D F G H J K L Q U A) (fK (I ak) y c [(67,d)])):ao R (run PG (n+90) false 6 (.ss [l_ 4]) (cl E C D F G H J K L Q U A) (fK (I ak) y c [(67,d)])):=dw [.c m,.s 1,.c Y,.c g,.b P,.d V,.c T,.s 1,.c Y,.b h,.c a,.s 1,.c a,.c o,.c o,.d N,.s 1] p
theorem Kv (N:b8 ki (.ai [I 3,I ak,.ai [I k0]]) (.int (.negSucc 0))=some (.int (.negSucc 0))) (M:Gl F 2 v2 rows) (Z:Sm rows.length) (O:Sn (!k0.blt rows.length)) (S:Sm k0) (u:aL rows k0=some (.ai [I 6,I i0])) (X:Sn (!Nat.blt 0 ak)) (w:Sn (k0.beq 0)) (gM:Sn (k0.beq 14)) (j:Gl F 4 v4 dp) (z:aL dp k0=some (I 1)) (x:Gl F 5 v5 wt) (h21:aL wt k0=some (I 1)) (h22:Gl F 6 v6 op) (h23:aL op k0=some (I 1)) (xA:Sm ki.length) (um:Sm dp.length) (BE:Sm wt.length) (yp:Sm op.length) (p:R (.f (Fl.ret (I (rows.length)))) ((cl E C D ⟨F.n,ov 6 v6 (op++[I 1]) (ov 5 v5 (wt++[I 2]) (ov 4 v4 (dp++[I 2]) (.aq 3 ⟨v3+1,.dict .r (aM ki (.ai [I 3,I ak,.ai [I k0]]) (I (rows.length)))⟩ (ov 2 v2 (rows++[DV.ai [I 3,I ak,.ai [I k0]]]) F.t))))⟩ G H J K L Q U A)) (fK (I ak) y c [(67,d)])):ao R (run PG (n+90) false 6 (.ss [l_ 4]) (cl E C D F G H J K L Q U A) (fK (I ak) y c [(67,d)])):=dw [.c m,.s 1,.c Y,.c g,.b P,.d V,.c T,.s 1,.c Y,.b h,.c a,.s 1,.c a,.c o,.c o,.d N,.s 22,.c a,.s 1,.c a,.c M,.b Z,.b O,.c a,.c M,.b S,.d u,.s 4,.b X,.s 2,.b h,.s 3,.b w,.b gM,.c a,.s 1,.c a,.c M,.b Z,.b O,.c a,.c M,.b S,.d u,.s 24,.c a,.c j,.b S,.d z,.s 1,.c a,.c j,.b S,.d z,.c a,.c x,.b S,.d h21,.c a,.c h22,.b S,.d h23,.s 3,.c a,.c M,.b Z,.c a,.c M,.c M,.b Z,.k [.t] a,.k [.t] o,.b xA,.k [.t,.t] a,.k [.t,.t] j,.k [.t,.t] j,.b um,.k [.t,.t,.t] a,.k [.t,.t,.t] x,.k [.t,.t,.t] x,.b BE,.k [.t,.t,.t,.t] a,.k [.t,.t,.t,.t] h22,.k [.t,.t,.t,.t] h22,.b yp] p
end
end
section
variable (m:Gl J c u4 [I k0,I k1]) (Y:Ge F 0 (stC v0 3)) (g:Gl F 13 v7 ty) (P:Sm ak) (V:aL ty ak=some (.aj 3 y)) (T:Ge F y (lK u2 3 y ak aK so fg ba cc fin)) (h:Sn (ck so (Int.ofNat 2))) (a:Sn (ck so (Int.ofNat 5))) (o:n7 PG (I ak) (.fn 48)=some false) (N:Ge F 1 (tK 3 v1)) (M:Ge F 3 ⟨v3,.dict .r ki⟩)
include m Y g P V T h a o N M
theorem Kd (Z:b8 ki (.ai [I 2,I ak,.ai [I k0,I k1]]) (.int (.negSucc 0))=some (I k)) (p:R (.f (Fl.ret (I k))) (cl E C D F G H J K L Q U A) (fK (I ak) y c [(67,d)])):ao R (run PG (n+90) false 6 (.ss [l_ 4]) (cl E C D F G H J K L Q U A) (fK (I ak) y c [(67,d)])):=dw [.c m,.s 1,.c Y,.c g,.b P,.d V,.c T,.b h,.b a,.c Y,.b o,.c N,.s 1,.c N,.c M,.c M,.d Z,.s 1] p
theorem Kc (Z:b8 ki (.ai [I 2,I ak,.ai [I k0,I k1]]) (.int (.negSucc 0))=some (.int (.negSucc 0))) (O:Gl F 2 v2 rows) (S:Sm rows.length) (u:Sn (!k0.blt rows.length)) (X:Sm k0) (w:aL rows k0=some (.ai [I 6,I i0])) (gM:Sn (!k1.blt rows.length)) (j:Sm k1) (z:aL rows k1=some (.ai [I 6,I i1])) (x:Sn (!Nat.blt 0 ak)) (h21:Sn (k0.beq 0)) (h22:Sn (k0.beq 14)) (h23:Sn (k1.beq 0)) (xA:Sn (k1.beq 14)) (um:Gl F 4 v4 dp) (BE:aL dp k0=some (I 1)) (yp:Gl F 5 v5 wt) (IP:aL wt k0=some (I 1)) (DW:Gl F 6 v6 op) (h30:aL op k0=some (I 1)) (Ll:aL dp k1=some (I 1)) (E8:aL wt k1=some (I 1)) (MI:aL op k1=some (I 1)) (E9:Sm ki.length) (MJ:Sm dp.length) (MK:Sm wt.length) (ML:Sm op.length) (p:R (.f (Fl.ret (I (rows.length)))) ((cl E C D ⟨F.n,ov 6 v6 (op++[I 1]) (ov 5 v5 (wt++[I 3]) (ov 4 v4 (dp++[I 2]) (.aq 3 ⟨v3+1,.dict .r (aM ki (.ai [I 2,I ak,.ai [I k0,I k1]]) (I (rows.length)))⟩ (ov 2 v2 (rows++[DV.ai [I 2,I ak,.ai [I k0,I k1]]]) F.t))))⟩ G H J K L Q U A)) (fK (I ak) y c [(67,d)])):ao R (run PG (n+90) false 6 (.ss [l_ 4]) (cl E C D F G H J K L Q U A) (fK (I ak) y c [(67,d)])):=dw [.c m,.s 1,.c Y,.c g,.b P,.d V,.c T,.b h,.b a,.c Y,.b o,.c N,.s 1,.c N,.c M,.c M,.d Z,.s 20,.c N,.s 1,.c N,.c O,.b S,.b u,.c N,.c O,.b X,.d w,.c N,.s 1,.c N,.c O,.b S,.b gM,.c N,.c O,.b j,.d z,.s 3,.b x,.s 2,.b o,.s 3,.b h21,.b h22,.c N,.s 1,.c N,.c O,.b S,.b u,.c N,.c O,.b X,.d w,.s 7,.b h23,.b xA,.c N,.s 1,.c N,.c O,.b S,.b gM,.c N,.c O,.b j,.d z,.s 22,.c N,.c um,.b X,.d BE,.s 1,.c N,.c um,.b X,.d BE,.c N,.c yp,.b X,.d IP,.c N,.c DW,.b X,.d h30,.s 1,.c N,.c um,.b j,.d Ll,.s 1,.c N,.c yp,.b j,.d E8,.c N,.c DW,.b j,.d MI,.s 3,.c N,.c O,.b S,.c N,.c O,.c O,.b S,.k [.t] N,.k [.t] M,.b E9,.k [.t,.t] N,.k [.t,.t] um,.k [.t,.t] um,.b MJ,.k [.t,.t,.t] N,.k [.t,.t,.t] yp,.k [.t,.t,.t] yp,.b MK,.k [.t,.t,.t,.t] N,.k [.t,.t,.t,.t] DW,.k [.t,.t,.t,.t] DW,.b ML] p
end
section
variable (m:Gl J c u4 [I k0,I k1,I k2]) (Y:Ge F 0 (stC v0 3)) (g:Gl F 13 v7 ty) (P:Sm ak) (V:aL ty ak=some (.aj 3 y)) (T:Ge F y (lK u2 3 y ak aK so fg ba cc fin)) (h:Sn (ck so (Int.ofNat 2))) (a:Sn (ck so (Int.ofNat 5))) (o:n7 PG (I ak) (.fn 48)=some false) (N:Ge F 1 (tK 3 v1)) (M:Ge F 3 ⟨v3,.dict .r ki⟩)
include m Y g P V T h a o N M
theorem Kf (Z:b8 ki (.ai [I 2,I ak,.ai [I k0,I k1,I k2]]) (.int (.negSucc 0))=some (I k)) (p:R (.f (Fl.ret (I k))) (cl E C D F G H J K L Q U A) (fK (I ak) y c [(67,d)])):ao R (run PG (n+90) false 6 (.ss [l_ 4]) (cl E C D F G H J K L Q U A) (fK (I ak) y c [(67,d)])):=dw [.c m,.s 1,.c Y,.c g,.b P,.d V,.c T,.b h,.b a,.c Y,.b o,.c N,.s 1,.c N,.c M,.c M,.d Z,.s 1] p
theorem Ke (Z:b8 ki (.ai [I 2,I ak,.ai [I k0,I k1,I k2]]) (.int (.negSucc 0))=some (.int (.negSucc 0))) (O:Gl F 2 v2 rows) (S:Sm rows.length) (u:Sn (!k0.blt rows.length)) (X:Sm k0) (w:aL rows k0=some (.ai [I 6,I i0])) (gM:Sn (!k1.blt rows.length)) (j:Sm k1) (z:aL rows k1=some (.ai [I 6,I i1])) (x:Sn (!k2.blt rows.length)) (h21:Sm k2) (h22:aL rows k2=some (.ai [I 6,I i2])) (h23:Sn (!Nat.blt 0 ak)) (xA:Sn (k0.beq 0)) (um:Sn (k0.beq 14)) (BE:Sn (k1.beq 0)) (yp:Sn (k1.beq 14)) (IP:Sn (k2.beq 0)) (DW:Sn (k2.beq 14)) (h30:Gl F 4 v4 dp) (Ll:aL dp k0=some (I 1)) (E8:Gl F 5 v5 wt) (MI:aL wt k0=some (I 1)) (E9:Gl F 6 v6 op) (MJ:aL op k0=some (I 1)) (MK:aL dp k1=some (I 1)) (ML:aL wt k1=some (I 1)) (Uw:aL op k1=some (I 1)) (Ux:aL dp k2=some (I 1)) (Uy:aL wt k2=some (I 1)) (Uz:aL op k2=some (I 1)) (UA:Sm ki.length) (UB:Sm dp.length) (UC:Sm wt.length) (UD:Sm op.length) (p:R (.f (Fl.ret (I (rows.length)))) ((cl E C D ⟨F.n,ov 6 v6 (op++[I 1]) (ov 5 v5 (wt++[I 4]) (ov 4 v4 (dp++[I 2]) (.aq 3 ⟨v3+1,.dict .r (aM ki (.ai [I 2,I ak,.ai [I k0,I k1,I k2]]) (I (rows.length)))⟩ (ov 2 v2 (rows++[DV.ai [I 2,I ak,.ai [I k0,I k1,I k2]]]) F.t))))⟩ G H J K L Q U A)) (fK (I ak) y c [(67,d)])):ao R (run PG (n+90) false 6 (.ss [l_ 4]) (cl E C D F G H J K L Q U A) (fK (I ak) y c [(67,d)])):=dw [.c m,.s 1,.c Y,.c g,.b P,.d V,.c T,.b h,.b a,.c Y,.b o,.c N,.s 1,.c N,.c M,.c M,.d Z,.s 20,.c N,.s 1,.c N,.c O,.b S,.b u,.c N,.c O,.b X,.d w,.c N,.s 1,.c N,.c O,.b S,.b gM,.c N,.c O,.b j,.d z,.c N,.s 1,.c N,.c O,.b S,.b x,.c N,.c O,.b h21,.d h22,.s 3,.b h23,.s 2,.b o,.s 3,.b xA,.b um,.c N,.s 1,.c N,.c O,.b S,.b u,.c N,.c O,.b X,.d w,.s 7,.b BE,.b yp,.c N,.s 1,.c N,.c O,.b S,.b gM,.c N,.c O,.b j,.d z,.s 7,.b IP,.b DW,.c N,.s 1,.c N,.c O,.b S,.b x,.c N,.c O,.b h21,.d h22,.s 22,.c N,.c h30,.b X,.d Ll,.s 1,.c N,.c h30,.b X,.d Ll,.c N,.c E8,.b X,.d MI,.c N,.c E9,.b X,.d MJ,.s 1,.c N,.c h30,.b j,.d MK,.s 1,.c N,.c E8,.b j,.d ML,.c N,.c E9,.b j,.d Uw,.s 1,.c N,.c h30,.b h21,.d Ux,.s 1,.c N,.c E8,.b h21,.d Uy,.c N,.c E9,.b h21,.d Uz,.s 3,.c N,.c O,.b S,.c N,.c O,.c O,.b S,.k [.t] N,.k [.t] M,.b UA,.k [.t,.t] N,.k [.t,.t] h30,.k [.t,.t] h30,.b UB,.k [.t,.t,.t] N,.k [.t,.t,.t] E8,.k [.t,.t,.t] E8,.b UC,.k [.t,.t,.t,.t] N,.k [.t,.t,.t,.t] E9,.k [.t,.t,.t,.t] E9,.b UD] p
end
section
variable (m:Ge C B (n9 u2 1 B ak aK so fg (mb) cc fin)) (Y:Sn (ck so (Int.ofNat 2))) (g:q≠J.n) (P:Ge J q ⟨u5,.var (some (.aj 3 0))⟩) (V:Ge F 0 (stC v0 3)) (T:Ge F 1 (tK 3 v1)) (h:Gl F 2 v2 rows) (a:Sm rows.length) (o:Sn (!k.blt rows.length)) (N:Sm k)
include m Y g P V T h a o N
theorem Mn (M:aL rows k=some (.ai [I 2,I ak,.ai []])) (p:ao R (run PG (n+57) false 6 (.ss l) ((cl E C D F G H ⟨J.n+2,.aq (J.n+1) ⟨0,.list []⟩ (.aq J.n ⟨0,.list []⟩ J.t)⟩ K L Q U A)) (fF q (I ak) B (I 0) [(13,I k),(103,.ai [I 2,I ak,.aj 6 J.n]),(104,.ai [I 2,I ak,.aj 6 (J.n+1)])]))):ao R (run PG (n+60) false 6 (.ss (bB 4::bB 5::bB 6::l)) (cl E C D F G H J K L Q U A) (fF q (I ak) B (I 0) [(13,I k)])):=dw [.c m,.s 1,.b Y,.s 3,.k [.f g] P,.c V,.c T,.s 1,.c T,.c h,.b a,.b o,.c T,.c h,.b N,.d M,.s 11] p
theorem Mp (M:aL rows k=some (.ai [I 2,I ak,.ai [I k0]])) (Z:Sn (!k0.blt rows.length)) (O:Sm k0) (S:aL rows k0=some (.ai [I 6,I 0])) (p:ao R (run PG (n+57) false 6 (.ss l) ((cl E C D F G H ⟨J.n+2,.aq (J.n+1) ⟨0,.list [.ai [I 6,I 0]]⟩ (.aq J.n ⟨0,.list [.ai [I 6,I 0]]⟩ J.t)⟩ K L Q U A)) (fF q (I ak) B (I 1) [(13,I k),(103,.ai [I 2,I ak,.aj 6 J.n]),(104,.ai [I 2,I ak,.aj 6 (J.n+1)])]))):ao R (run PG (n+60) false 6 (.ss (bB 4::bB 5::bB 6::l)) (cl E C D F G H J K L Q U A) (fF q (I ak) B (I 1) [(13,I k)])):=dw [.c m,.s 1,.b Y,.s 4,.k [.f g] P,.c V,.c T,.s 1,.c T,.c h,.b a,.b o,.c T,.c h,.b N,.d M,.s 9,.k [.f g] P,.c V,.c T,.s 1,.c T,.c h,.b a,.b Z,.c T,.c h,.b O,.d S,.s 2] p
theorem Mq (M:aL rows k=some (.ai [I 2,I ak,.ai [I k0,I k1]])) (Z:Sn (!k0.blt rows.length)) (O:Sm k0) (S:aL rows k0=some (.ai [I 6,I 0])) (u:Sn (!k1.blt rows.length)) (X:Sm k1) (w:aL rows k1=some (.ai [I 6,I 1])) (p:ao R (run PG (n+57) false 6 (.ss l) ((cl E C D F G H ⟨J.n+2,.aq (J.n+1) ⟨0,.list [.ai [I 6,I 0],.ai [I 6,I 1]]⟩ (.aq J.n ⟨0,.list [.ai [I 6,I 0],.ai [I 6,I 1]]⟩ J.t)⟩ K L Q U A)) (fF q (I ak) B (I 2) [(13,I k),(103,.ai [I 2,I ak,.aj 6 J.n]),(104,.ai [I 2,I ak,.aj 6 (J.n+1)])]))):ao R (run PG (n+60) false 6 (.ss (bB 4::bB 5::bB 6::l)) (cl E C D F G H J K L Q U A) (fF q (I ak) B (I 2) [(13,I k)])):=dw [.c m,.s 1,.b Y,.s 5,.k [.f g] P,.c V,.c T,.s 1,.c T,.c h,.b a,.b o,.c T,.c h,.b N,.d M,.s 9,.k [.f g] P,.c V,.c T,.s 1,.c T,.c h,.b a,.b Z,.c T,.c h,.b O,.d S,.k [.f g] P,.c V,.c T,.s 1,.c T,.c h,.b a,.b u,.c T,.c h,.b X,.d w,.s 2] p
theorem Mr (M:aL rows k=some (.ai [I 2,I ak,.ai [I k0,I k1,I k2]])) (Z:Sn (!k0.blt rows.length)) (O:Sm k0) (S:aL rows k0=some (.ai [I 6,I 0])) (u:Sn (!k1.blt rows.length)) (X:Sm k1) (w:aL rows k1=some (.ai [I 6,I 1])) (gM:Sn (!k2.blt rows.length)) (j:Sm k2) (z:aL rows k2=some (.ai [I 6,I 2])) (p:ao R (run PG (n+57) false 6 (.ss l) ((cl E C D F G H ⟨J.n+2,.aq (J.n+1) ⟨0,.list [.ai [I 6,I 0],.ai [I 6,I 1],.ai [I 6,I 2]]⟩ (.aq J.n ⟨0,.list [.ai [I 6,I 0],.ai [I 6,I 1],.ai [I 6,I 2]]⟩ J.t)⟩ K L Q U A)) (fF q (I ak) B (I 3) [(13,I k),(103,.ai [I 2,I ak,.aj 6 J.n]),(104,.ai [I 2,I ak,.aj 6 (J.n+1)])]))):ao R (run PG (n+60) false 6 (.ss (bB 4::bB 5::bB 6::l)) (cl E C D F G H J K L Q U A) (fF q (I ak) B (I 3) [(13,I k)])):=dw [.c m,.s 1,.b Y,.s 6,.k [.f g] P,.c V,.c T,.s 1,.c T,.c h,.b a,.b o,.c T,.c h,.b N,.d M,.s 9,.k [.f g] P,.c V,.c T,.s 1,.c T,.c h,.b a,.b Z,.c T,.c h,.b O,.d S,.k [.f g] P,.c V,.c T,.s 1,.c T,.c h,.b a,.b u,.c T,.c h,.b X,.d w,.k [.f g] P,.c V,.c T,.s 1,.c T,.c h,.b a,.b gM,.c T,.c h,.b j,.d z,.s 2] p
theorem IC (M:aL rows k=some (.ai [I 1,I k])) (p:ao R (run PG (n+57) false 6 (.ss l) (cl E C D F G H ⟨J.n+1,.aq J.n ⟨0,.list []⟩ J.t⟩ K L Q U A) (fF q (I ak) B (I 0) [(13,I k),(103,.ai [I 2,I ak,.aj 6 J.n]),(104,.ai [I 1,I k])]))):ao R (run PG (n+60) false 6 (.ss (bB 4::bB 5::bB 6::l)) (cl E C D F G H J K L Q U A) (fF q (I ak) B (I 0) [(13,I k)])):=dw [.c m,.s 1,.b Y,.s 3,.k [.f g] P,.c V,.c T,.s 1,.c T,.c h,.b a,.b o,.c T,.c h,.b N,.d M,.s 2] p
end
section
variable (m:Ge C B (n9 u2 1 B ak aK (.ofNat 2) fg (mb) cc fin)) (Y:q≠J.n) (g:Ge J q ⟨u5,.var (some (.aj 3 0))⟩) (P:Ge F 0 (stC v0 3)) (V:Ge F 1 (tK 3 v1)) (T:Gl F 2 v2 rows) (h:Sm rows.length) (a:Sn (!k.blt rows.length)) (o:Sm k)
include m Y g P V T h a o
theorem Ms (N:aL rows k=some (.ai [I 3,I ak,.ai [I k0]])) (M:Sn (!k0.blt rows.length)) (Z:Sm k0) (O:aL rows k0=some (.ai [I 6,I 0])) (p:ao R (run PG (n+57) false 6 (.ss l) ((cl E C D F G H ⟨J.n+2,.aq (J.n+1) ⟨0,.list [.ai [I 6,I 0]]⟩ (.aq J.n ⟨0,.list [.ai [I 6,I 0]]⟩ J.t)⟩ K L Q U A)) (fF q (I ak) B (I 1) [(13,I k),(103,.ai [I 3,I ak,.aj 6 J.n]),(104,.ai [I 3,I ak,.aj 6 (J.n+1)])]))):ao R (run PG (n+60) false 6 (.ss (bB 4::bB 5::bB 6::l)) (cl E C D F G H J K L Q U A) (fF q (I ak) B (I 1) [(13,I k)])):=dw [.c m,.s 6,.k [.f Y] g,.c P,.c V,.s 1,.c V,.c T,.b h,.b a,.c V,.c T,.b o,.d N,.s 9,.k [.f Y] g,.c P,.c V,.s 1,.c V,.c T,.b h,.b M,.c V,.c T,.b Z,.d O,.s 2] p
theorem ID (N:aL rows k=some (.ai [I 1,I k])) (p:ao R (run PG (n+57) false 6 (.ss l) (cl E C D F G H ⟨J.n+1,.aq J.n ⟨0,.list []⟩ J.t⟩ K L Q U A) (fF q (I ak) B (I 0) [(13,I k),(103,.ai [I 3,I ak,.aj 6 J.n]),(104,.ai [I 1,I k])]))):ao R (run PG (n+60) false 6 (.ss (bB 4::bB 5::bB 6::l)) (cl E C D F G H J K L Q U A) (fF q (I ak) B (I 0) [(13,I k)])):=dw [.c m,.s 5,.k [.f Y] g,.c P,.c V,.s 1,.c V,.c T,.b h,.b a,.c V,.c T,.b o,.d N,.s 2] p
end
theorem TQ (m:Sn (!ak.blt 9)) (Y:Sn (ak.beq 1)) (g:Sn (ak.beq 4)) (P:Sn (ak.beq 20)) (p:ao R (run PG (n+57) false 6 (.ss l) (cl E C D F G H J K L Q U A) (fF q (I ak) B (I cn) [(13,I k),(103,d),(104,mb)]))):ao R (run PG (n+60) false 6 (.ss (bB 7::bB 8::bB 9::l)) (cl E C D F G H J K L Q U A) (fF q (I ak) B (I cn) [(13,I k),(103,d),(104,mb)])):=dw [.b m,.b Y,.b g,.b P] p
theorem TP (m:So (!ak.blt 9)) (Y:Sn (!Nat.blt 19 ak)) (g:Sn (ak.beq 1)) (P:Sn (ak.beq 4)) (V:Sn (ak.beq 20)) (p:ao R (run PG (n+57) false 6 (.ss l) (cl E C D F G H J K L Q U A) (fF q (I ak) B (I cn) [(13,I k),(103,d),(104,mb)]))):ao R (run PG (n+60) false 6 (.ss (bB 7::bB 8::bB 9::l)) (cl E C D F G H J K L Q U A) (fF q (I ak) B (I cn) [(13,I k),(103,d),(104,mb)])):=dw [.b m,.b Y,.b g,.b P,.b V] p
theorem TR (m:So (!ak.blt 9)) (Y:So (!Nat.blt 19 ak)) (g:Sn (ak.beq 1)) (P:Sn (ak.beq 4)) (V:Sn (ak.beq 20)) (p:ao R (run PG (n+57) false 6 (.ss l) (cl E C D F G H J K L Q U A) (fF q (I ak) B (I cn) [(13,I k),(103,.ai [I 1,.int (eF (Int.ofNat ak) (Int.ofNat 8))]),(104,mb)]))):ao R (run PG (n+60) false 6 (.ss (bB 7::bB 8::bB 9::l)) (cl E C D F G H J K L Q U A) (fF q (I ak) B (I cn) [(13,I k),(103,d),(104,mb)])):=dw [.b m,.b Y,.s 1,.b g,.b P,.b V] p
theorem TM (p:ao R (run PG (n+57) false 6 (.ss l) (cl E C D F G H J K L Q U A) (fF q (I 1) B (I cn) [(13,I k),(103,.ai [I 1,I 12]),(104,mb)]))):ao R (run PG (n+60) false 6 (.ss (bB 7::bB 8::bB 9::l)) (cl E C D F G H J K L Q U A) (fF q (I 1) B (I cn) [(13,I k),(103,d),(104,mb)])):=dw [.s 4] p
theorem TN (p:ao R (run PG (n+57) false 6 (.ss l) (cl E C D F G H J K L Q U A) (fF q (I 4) B (I cn) [(13,I k),(103,.ai [I 1,I 13]),(104,mb)]))):ao R (run PG (n+60) false 6 (.ss (bB 7::bB 8::bB 9::l)) (cl E C D F G H J K L Q U A) (fF q (I 4) B (I cn) [(13,I k),(103,d),(104,mb)])):=dw [.s 5] p
theorem Mw (p:ao R (run PG (n+57) false 6 (.ss l) (cl E C D F G H J K L Q U A) (fF q (I 20) B (I cn) [(13,I k),(103,.ai [I 1,I 0]),(104,mb)]))):ao R (run PG (n+60) false 6 (.ss (bB 7::bB 8::bB 9::l)) (cl E C D F G H J K L Q U A) (fF q (I 20) B (I cn) [(13,I k),(103,d),(104,mb)])):=dw [.s 6] p
section
variable (m:fy PG (cl E C D F G H J K L Q U A) wV.ne (mb) (d)=some false)
include m
theorem ff (Y:Sn (ak.beq 20)) (g:Ge C B (n9 u2 1 B ak aK so fg (ab) cc fin)) (p:ao R (run PG (n+58) false 6 (.ss l) (cl E C D F G H J K L Q U A) (fF q (I ak) B (I cn) [(13,I k),(103,d),(104,mb),(95,ab)]))):ao R (run PG (n+60) false 6 (.ss (bB 10::bB 11::l)) (cl E C D F G H J K L Q U A) (fF q (I ak) B (I cn) [(13,I k),(103,d),(104,mb)])):=dw [.b m,.b Y,.c g,.s 1] p
theorem My (p:ao R (run PG (n+58) false 6 (.ss l) (cl E C D F G H J K L Q U A) (fF q (I 20) B (I cn) [(13,I k),(103,d),(104,mb),(95,.ai [])]))):ao R (run PG (n+60) false 6 (.ss (bB 10::bB 11::l)) (cl E C D F G H J K L Q U A) (fF q (I 20) B (I cn) [(13,I k),(103,d),(104,mb)])):=dw [.b m,.s 2] p
end
section
variable (m:Ge J q ⟨u5,.var (some (.aj 3 0))⟩)
include m
section
variable (Y:Ge F 0 (stC v0 3))
include Y
section
variable (g:Sn (k.blt 16)) (P:Ge F 1 (tK 3 v1)) (V:Gl F 2 v2 rows) (T:Sm rows.length) (h:Sn (!k.blt rows.length)) (a:Sm k)
include g P V T h a
section
variable (o:aL rows k=some (.ai [I 2,I c,ab])) (N:Sn (!Nat.blt 0 c)) (M:Gl F 13 v7 ty) (Z:Sm ty.length) (O:Sn (!c.blt ty.length)) (S:Sm c) (u:aL ty c=some (.aj 3 y))
include o N M Z O S u
section
variable (X:Ge F y (lK u3 3 y c aK so fg (.ofNat b) cc fin)) (w:Sn (ck so (Int.ofNat 3))) (gM:Sn (!b.blt rows.length)) (j:Sm b)
include X w gM j
theorem TY (z:aL rows b=some (.ai [I 1,I 12])) (x:Gl F 6 v6 op) (h21:aL op b=some (I 0)) (h22:Ge C 8 (xM u0)) (h23:Gl C 1 u1 my) (xA:aL my 1=some (.aj 1 c2)) (um:Ge C c2 (n9 u2 1 c2 Bd Am KH IE (BC) Ib fin2)) (p:R (.f .next) (cl E C D F G H J K L Q U A) (fF q (I ak) B (I cn) [(13,I b),(103,d),(104,mb),(95,BC),(26,I i)])):ao R (run PG (n+90) false 6 (.ss (i8 (bB 12))) (cl E C D F G H J K L Q U A) (fF q (I ak) B (I cn) [(13,I k),(103,d),(104,mb),(95,.ai [I 1,I 12]),(26,I i)])):=dw [.c m,.c Y,.b g,.c P,.s 1,.c P,.c V,.b T,.b h,.c P,.c V,.b a,.d o,.s 4,.c Y,.c P,.s 1,.c P,.c V,.b T,.b h,.c P,.c V,.b a,.d o,.s 5,.b N,.c Y,.c M,.b Z,.b O,.c Y,.c M,.b S,.d u,.s 2,.c X,.s 1,.c X,.b w,.c X,.c P,.s 1,.c P,.c V,.b T,.b h,.c P,.c V,.b a,.d o,.s 6,.c P,.s 1,.c P,.c V,.b T,.b gM,.c P,.c V,.b j,.d z,.c P,.c x,.b j,.d h21,.s 3,.c m,.c Y,.c P,.s 1,.c P,.c V,.b T,.b gM,.c P,.c V,.b j,.d z,.s 1,.c h22,.s 3,.c h23,.s 1,.d xA,.c um,.s 1] p
theorem TZ (z:aL rows b=some (.ai [I 2,I i0,.ai []])) (x:Gl F 6 v6 op) (h21:aL op b=some (I 0)) (h22:fy PG (cl E C D F G H J K L Q U A) wV.ne (.ai [I 2,I i0,.ai []]) (.ai [I 2,I i0,.ai []])=some false) (h23:Ge C 8 (xM u0)) (xA:Gl C 1 u1 my) (um:Sm i0) (BE:aL my i0=some (.aj 1 c2)) (yp:Ge C c2 (n9 u2 1 c2 Bd Am KH IE (BC) Ib fin2)) (p:R (.f .next) (cl E C D F G H J K L Q U A) (fF q (I ak) B (I cn) [(13,I b),(103,d),(104,mb),(95,BC),(26,I i)])):ao R (run PG (n+90) false 6 (.ss (i8 (bB 12))) (cl E C D F G H J K L Q U A) (fF q (I ak) B (I cn) [(13,I k),(103,d),(104,mb),(95,.ai [I 2,I i0,.ai []]),(26,I i)])):=dw [.c m,.c Y,.b g,.c P,.s 1,.c P,.c V,.b T,.b h,.c P,.c V,.b a,.d o,.s 4,.c Y,.c P,.s 1,.c P,.c V,.b T,.b h,.c P,.c V,.b a,.d o,.s 5,.b N,.c Y,.c M,.b Z,.b O,.c Y,.c M,.b S,.d u,.s 2,.c X,.s 1,.c X,.b w,.c X,.c P,.s 1,.c P,.c V,.b T,.b h,.c P,.c V,.b a,.d o,.s 6,.c P,.s 1,.c P,.c V,.b T,.b gM,.c P,.c V,.b j,.d z,.c P,.c x,.b j,.d h21,.s 3,.c m,.c Y,.c P,.s 1,.c P,.c V,.b T,.b gM,.c P,.c V,.b j,.d z,.b h22,.c h23,.s 5,.c xA,.b um,.d BE,.c yp,.s 1] p
end
theorem TU (X:Ge F y (lK u3 3 y c aK so fg (.negSucc 0) cc fin)) (p:R (.f (Fl.ret (.bool true))) (cl E C D F G H J K L Q U A) (fF q (I ak) B (I cn) [(13,.int (.negSucc 0)),(103,d),(104,mb),(95,.ai []),(26,I i)])):ao R (run PG (n+90) false 6 (.ss (i8 (bB 12))) (cl E C D F G H J K L Q U A) (fF q (I ak) B (I cn) [(13,I k),(103,d),(104,mb),(95,.ai []),(26,I i)])):=dw [.c m,.c Y,.b g,.c P,.s 1,.c P,.c V,.b T,.b h,.c P,.c V,.b a,.d o,.s 4,.c Y,.c P,.s 1,.c P,.c V,.b T,.b h,.c P,.c V,.b a,.d o,.s 5,.b N,.c Y,.c M,.b Z,.b O,.c Y,.c M,.b S,.d u,.s 2,.c X,.s 5] p
end
theorem T6 (o:aL rows k=some (.ai [I 3,I c,ab])) (N:Sn (!Nat.blt 0 c)) (M:Gl F 13 v7 ty) (Z:Sm ty.length) (O:Sn (!c.blt ty.length)) (S:Sm c) (u:aL ty c=some (.aj 3 y)) (X:Ge F y (lK u3 3 y c aK (.ofNat 2) fg (.ofNat b) cc fin)) (w:Ge F 3 ⟨v3,.dict .r ki⟩) (gM:b8 ki (.ai [I 2,I 2,.ai []]) (.int (.negSucc 0))=some (I 16)) (j:Sn (!Nat.blt 16 rows.length)) (z:aL rows 16=some (.ai [I 2,I 2,.ai []])) (x:Ge C 8 (xM u0)) (h21:Gl C 1 u1 my) (h22:aL my 2=some (.aj 1 c2)) (h23:Ge C c2 (n9 u2 1 c2 Bd Am KH IE (BC) Ib fin2)) (p:R (.f .next) (cl E C D F G H J K L Q U A) (fF q (I ak) B (I cn) [(13,I 16),(103,d),(104,mb),(95,BC),(26,I i)])):ao R (run PG (n+90) false 6 (.ss (i8 (bB 12))) (cl E C D F G H J K L Q U A) (fF q (I ak) B (I cn) [(13,I k),(103,d),(104,mb),(95,.ai [I 2,I 2,.ai []]),(26,I i)])):=dw [.c m,.c Y,.b g,.c P,.s 1,.c P,.c V,.b T,.b h,.c P,.c V,.b a,.d o,.s 4,.c Y,.c P,.s 1,.c P,.c V,.b T,.b h,.c P,.c V,.b a,.d o,.s 8,.b N,.c Y,.c M,.b Z,.b O,.c Y,.c M,.b S,.d u,.s 2,.c X,.s 3,.c P,.s 1,.c P,.c w,.c w,.d gM,.s 3,.c m,.c Y,.c P,.s 1,.c P,.c V,.b T,.b j,.c P,.c V,.s 1,.d z,.s 1,.c x,.s 5,.c h21,.s 1,.d h22,.c h23,.s 1] p
end
theorem T4 (g:So (k.blt 16)) (P:So (!k.blt 1)) (V:So (!Nat.blt 11 k)) (T:Ge F 1 (tK 3 v1)) (h:Ge F 3 ⟨v3,.dict .r ki⟩) (a:b8 ki (.ai [I 2,I 2,.ai []]) (.int (.negSucc 0))=some (I 16)) (o:Gl F 2 v2 rows) (N:Sm rows.length) (M:Sn (!Nat.blt 16 rows.length)) (Z:aL rows 16=some (.ai [I 2,I 2,.ai []])) (O:Ge C 8 (xM u0)) (S:Gl C 1 u1 my) (u:aL my 2=some (.aj 1 c2)) (X:Ge C c2 (n9 u2 1 c2 Bd Am KH IE (BC) Ib fin2)) (p:R (.f .next) (cl E C D F G H J K L Q U A) (fF q (I ak) B (I cn) [(13,I 16),(103,d),(104,mb),(95,BC),(26,I i)])):ao R (run PG (n+90) false 6 (.ss (i8 (bB 12))) (cl E C D F G H J K L Q U A) (fF q (I ak) B (I cn) [(13,I k),(103,d),(104,mb),(95,.ai [I 2,I 2,.ai []]),(26,I i)])):=dw [.c m,.c Y,.b g,.b P,.b V,.c Y,.s 2,.c T,.s 1,.c T,.c h,.c h,.d a,.s 3,.c m,.c Y,.c T,.s 1,.c T,.c o,.b N,.b M,.c T,.c o,.s 1,.d Z,.s 1,.c O,.s 5,.c S,.s 1,.d u,.c X,.s 1] p
theorem T5 (g:Ge F 1 (tK 3 v1)) (P:Gl F 2 v2 rows) (V:Sm rows.length) (T:Sn (!Nat.blt 12 rows.length)) (h:aL rows 12=some (.ai [I 1,I 12])) (a:Ge C 8 (xM u0)) (o:Gl C 1 u1 my) (N:aL my 1=some (.aj 1 c2)) (M:Ge C c2 (n9 u2 1 c2 Bd Am KH IE (BC) Ib fin2)) (p:R (.f .next) (cl E C D F G H J K L Q U A) (fF q (I ak) B (I cn) [(13,I 12),(103,d),(104,mb),(95,BC),(26,I i)])):ao R (run PG (n+90) false 6 (.ss (i8 (bB 12))) (cl E C D F G H J K L Q U A) (fF q (I ak) B (I cn) [(13,I 13),(103,d),(104,mb),(95,.ai [I 1,I 12]),(26,I i)])):=dw [.c m,.c Y,.s 6,.c m,.c Y,.c g,.s 1,.c g,.c P,.b V,.b T,.c g,.c P,.s 1,.d h,.s 1,.c a,.s 3,.c o,.s 1,.d N,.c M,.s 1] p
theorem TV (p:R (.f (Fl.ret (.bool true))) (cl E C D F G H J K L Q U A) (fF q (I ak) B (I cn) [(13,.int (.negSucc 0)),(103,d),(104,mb),(95,.ai []),(26,I i)])):ao R (run PG (n+90) false 6 (.ss (i8 (bB 12))) (cl E C D F G H J K L Q U A) (fF q (I ak) B (I cn) [(13,I 12),(103,d),(104,mb),(95,.ai []),(26,I i)])):=dw [.c m,.c Y,.s 8] p
theorem TS (p:R (.f (Fl.ret (.bool true))) (cl E C D F G H J K L Q U A) (fF q (I ak) B (I cn) [(13,.int (.negSucc 0)),(103,d),(104,mb),(95,.ai []),(26,I i)])):ao R (run PG (n+90) false 6 (.ss (i8 (bB 12))) (cl E C D F G H J K L Q U A) (fF q (I ak) B (I cn) [(13,I 0),(103,d),(104,mb),(95,.ai []),(26,I i)])):=dw [.c m,.c Y,.s 7] p
end
theorem TG (p:R (Rs.vs [.aj 3 0,I ak]) (cl E C D F G H J K L Q U A) (fF q (I ak) B (I cn) [])):ao R (run PG (n+30) false 6 (.es [.lc 68,.l 24]) (cl E C D F G H J K L Q U A) (fF q (I ak) B (I cn) [])):=dw [.c m] p
end
theorem Ku (p:R (.v (I 0)) (σ) ([])):ao R (run PG (n+60) false 6 (.call 634 [.aj 3 0,I 20]) σ []):=dw [.s 1] p
theorem Ri (p:R (.v (I 1)) (σ) ([])):ao R (run PG (n+60) false 6 (.call 634 [.aj 3 0,I 9]) σ []):=dw [.s 1] p
theorem Kg (p:R (.v (I 2)) (σ) ([])):ao R (run PG (n+60) false 6 (.call 634 [.aj 3 0,I 10]) σ []):=dw [.s 1] p
theorem Kh (p:R (.v (I 3)) (σ) ([])):ao R (run PG (n+60) false 6 (.call 634 [.aj 3 0,I 11]) σ []):=dw [.s 1] p
theorem Kl (p:R (.v (I 4)) (σ) ([])):ao R (run PG (n+60) false 6 (.call 634 [.aj 3 0,I 12]) σ []):=dw [.s 1] p
theorem Km (p:R (.v (I 5)) (σ) ([])):ao R (run PG (n+60) false 6 (.call 634 [.aj 3 0,I 13]) σ []):=dw [.s 1] p
theorem Kn (p:R (.v (I 6)) (σ) ([])):ao R (run PG (n+60) false 6 (.call 634 [.aj 3 0,I 14]) σ []):=dw [.s 1] p
theorem Ko (p:R (.v (I 7)) (σ) ([])):ao R (run PG (n+60) false 6 (.call 634 [.aj 3 0,I 15]) σ []):=dw [.s 1] p
theorem Kp (p:R (.v (I 8)) (σ) ([])):ao R (run PG (n+60) false 6 (.call 634 [.aj 3 0,I 16]) σ []):=dw [.s 1] p
theorem Kq (p:R (.v (I 9)) (σ) ([])):ao R (run PG (n+60) false 6 (.call 634 [.aj 3 0,I 17]) σ []):=dw [.s 1] p
theorem Kr (p:R (.v (I 10)) (σ) ([])):ao R (run PG (n+60) false 6 (.call 634 [.aj 3 0,I 18]) σ []):=dw [.s 1] p
theorem Ks (p:R (.v (I 11)) (σ) ([])):ao R (run PG (n+60) false 6 (.call 634 [.aj 3 0,I 19]) σ []):=dw [.s 1] p
theorem Rf (p:R (.v (I 12)) (σ) ([])):ao R (run PG (n+60) false 6 (.call 634 [.aj 3 0,I 1]) σ []):=dw [.s 1] p
theorem Rh (p:R (.v (I 13)) (σ) ([])):ao R (run PG (n+60) false 6 (.call 634 [.aj 3 0,I 4]) σ []):=dw [.s 1] p
end
end
section
abbrev KR:=DV×Nat×Nat×Nat
noncomputable abbrev eB (x:List KR):List DV:=dO++x.map (·.1)
noncomputable def vt (x:List KR):List DV:=List.replicate 22 (I 1)++x.map fun y=>I y.2.1
noncomputable def wQ (x:List KR):List DV:=List.replicate 22 (I 1)++x.map fun y=>I y.2.2.1
noncomputable def tL (x:List KR):List DV:=List.replicate 22 (I 0)++x.map fun y=>I y.2.2.2
noncomputable def HJ:List DV:=(List.range 64).map fun t=>if 1≤t∧t≤55 then .aj 3 (8+10*t) else .none
noncomputable abbrev Lj:DV:= .str ⟨⟨[99,111,114,101]⟩⟩
def LN (y:KR):Prop:=Pl y.1∧∀i,y.1= .ai [I 6,i]→y.2=(1,1,1)
structure FS (g:TC) (x:List KR):Prop where
 st:∃v,g.get 0=some (stC v 3)
 kt:∃v,g.get 1=some (tK 3 v)
 rw:∃v,g.get 2=some ⟨v,.list (eB x)⟩
 ki:∃v,g.get 3=some ⟨v,.dict .r (iI 0 (eB x))⟩
 dp:∃v,g.get 4=some ⟨v,.list (vt x)⟩
 wt:∃v,g.get 5=some ⟨v,.list (wQ x)⟩
 op:∃v,g.get 6=some ⟨v,.list (tL x)⟩
 ty:∃v,g.get 13=some ⟨v,.list HJ⟩
 nm:∃v,g.get 10=some ⟨v,.dict .n a0.ns⟩
 as:∃v,g.get 11=some ⟨v,.list [Lj]⟩
 td:∀t,t<55→∃v,g.get (8+10*(t+1))=some (lK v 3 (8+10*(t+1)) (t+1) (d8 (t+1)) (fq (t+1)) (m7 (t+1)) (gZ (t+1)) (.ofNat 0) (.ofNat 0))
 pa:∀t,t<55→∃v,g.get (8+10*(t+1)+2)=some ⟨v,.list (fN (t+1) 5)⟩
 ok:∀y∈x,LN y
theorem FP:∀d∈dO,Pl d:=fun d hd=>by
 have:(dO.all fun d=>wj 4 d)=true:=by kernel_rfl
 exact gh this d hd
section
variable {g:TC} {x:List KR} {row:DV} {G E v4 D C dp wt op k:Nat}
theorem FS.pl (F:FS g x):∀d∈eB x,Pl d:=fun d hd=>(jx hd).elim (FP d) fun z=>by refine az (List.mem_map.mp z) fun y A H=>?_;subst H;exact (F.ok y A).1
theorem FS.get (F:FS g x) (hr:Pl row):(∃p,(eB x)[p]?=some row∧b8 (iI 0 (eB x)) row (.int (.negSucc 0))=some (I p))∨(b8 (iI 0 (eB x)) row (.int (.negSucc 0))=some (.int (.negSucc 0))∧aM (iI 0 (eB x)) row (I (eB x).length)=iI 0 (eB x++[row])):=by
 refine (CG hr (n:=0) F.pl).imp (fun ⟨p,a,b⟩=>⟨p,a,by rw [Nat.zero_add] at b;exact mW b⟩) fun h=>⟨zc h,?_⟩
 rw [jh h,show iI 0 (eB x++[row])=_ from lX (l:=eB x) (m:=[row]),Nat.zero_add];rfl
theorem jD {β:Type} {l:zL} {f:KR→DV} {y:KR}:l++x.map f++[f y]=l++(x++[y]).map f:=by rw [List.map_append,List.append_assoc];rfl
theorem FS.new (F:FS g x) (hr:LN (row,dp,wt,op)) (hs:aM (iI 0 (eB x)) row (I (eB x).length)=iI 0 (eB x++[row])):FS (.aq 6 ⟨C,.list (tL x++[I op])⟩ (.aq 5 ⟨D,.list (wQ x++[I wt])⟩ (.aq 4 ⟨v4,.list (vt x++[I dp])⟩ (.aq 3 ⟨E,.dict .r (aM (iI 0 (eB x)) row (I (eB x).length))⟩ (.aq 2 ⟨G,.list (eB x++[row])⟩ g))))) (x++[(row,dp,wt,op)]):=by
 have ov:∀{j:Nat} {o:Option Cell},(j<2∨6<j)→g.get j=o→(TC.aq 6 ⟨C,.list (tL x++[I op])⟩ (.aq 5 ⟨D,.list (wQ x++[I wt])⟩ (.aq 4 ⟨v4,.list (vt x++[I dp])⟩ (.aq 3 ⟨E,.dict .r (aM (iI 0 (eB x)) row (I (eB x).length))⟩ (.aq 2 ⟨G,.list (eB x++[row])⟩ g))))).get j=o:=fun h e=>by rw [TC.ay,aS (OP h),TC.ay,aS (OQ h),TC.ay,aS (OR h),TC.ay,aS (OS h),TC.ay,aS (OT h)];exact e
 have M:eB x++[row]=eB (x++[(row,dp,wt,op)]):=jD (β:=DV) (l:=dO) (f:=(·.1)) (y:=(row,dp,wt,op));have L:vt x++[I dp]=vt (x++[(row,dp,wt,op)]):=jD (β:=DV) (f:=fun y=>I y.2.1) (y:=(row,dp,wt,op));have K:wQ x++[I wt]=wQ (x++[(row,dp,wt,op)]):=jD (β:=DV) (f:=fun y=>I y.2.2.1) (y:=(row,dp,wt,op));have J:tL x++[I op]=tL (x++[(row,dp,wt,op)]):=jD (β:=DV) (f:=fun y=>I y.2.2.2) (y:=(row,dp,wt,op));have ok:∀y∈x++[(row,dp,wt,op)],LN y:=fun y A=>(jx A).elim (F.ok y) fun z=>(nW z)▸hr;rw [hs,M,L,K,J] at ov⊢;refine ⟨let ⟨v,h⟩:=F.st;⟨v,ov aD h⟩,let ⟨v,h⟩:=F.kt;⟨v,ov aD h⟩,⟨G,?_⟩,⟨E,?_⟩,⟨v4,?_⟩,⟨D,?_⟩,⟨C,?_⟩,let ⟨v,h⟩:=F.ty;⟨v,ov aD h⟩,let ⟨v,h⟩:=F.nm;⟨v,ov aD h⟩,let ⟨v,h⟩:=F.as;⟨v,ov aD h⟩,fun t B=>let ⟨v,h⟩:=F.td t B;⟨v,ov (OU B) h⟩,fun t B=>let ⟨v,h⟩:=F.pa t B;⟨v,ov (OV B) h⟩,ok⟩;all_goals exact cg
end
theorem iN {x:List KR} {k i:Nat} (h:(eB x)[k]?=some (.ai [I 6,I i])):22≤k:=by
 refine je fun hk=>?_;rw [uR (show k<dO.length from hk)] at h;have:(dO.all fun d=>match d with| .ai (.int (.ofNat a)::_)=>Nat.blt a 3|_=>true)=true:=by kernel_rfl
 have:=gh this _ (List.mem_of_getElem? h);exact nof this
theorem jv {g:TC} {x:List KR} {k i:Nat} (F:FS g x) (h:(eB x)[k]?=some (.ai [I 6,I i])):aL (vt x) k=some (I 1)∧aL (wQ x) k=some (I 1)∧aL (tL x) k=some (I 1):=by
 have hk:=iN h;rw [Bx (show dO.length≤k from hk),List.getElem?_map] at h;cases e:x[k -dO.length]? with
 |none=>rw [e] at h;exact aW h
 |some y=>
  rw [e] at h;have A:=(F.ok y (List.mem_of_getElem? e)).2 (I i) (bw h);have q:∀{f:KR→DV} {z:DV},aL (List.replicate 22 z++x.map f) k=some (f y):=fun {f z}=>by rw [aH,Bx (by simp;exact OW hk),List.getElem?_map,List.length_replicate];rw [show k -22=k -dO.length from rfl,e];rfl
  refine eo (q.trans ?_) (q.trans ?_) (q.trans ?_);all_goals simp only [A]
end
section
variable {y:KR}
theorem gS:∀{l:zL} {n:Nat},(iI n l).length=l.length
 |[],_=>rfl
 |_::l,_=>congrArg (·+1) gS
theorem aI {x:List KR}:(eB x).length=22+x.length:=by rw [fO,List.length_map];rfl
theorem cP {x:List KR} {f:KR→DV} {z:DV}:(List.replicate 22 z++x.map f).length=22+x.length:=by rw [fO,List.length_map,List.length_replicate]
theorem jQ {a b:Int} (h:DV.int a= .int b):a=b:=by cases h;rfl
theorem wC {x:List KR}:eB (x++[y])=eB x++[y.1]:=(jD (β:=DV) (l:=dO) (f:=(·.1)) (y:=y)).symm
theorem AQ {x:List KR} {k:Nat} {d:DV} (h:(eB x)[k]?=some d):(eB (x++[y]))[k]?=some d:=by rw [wC,uR (jy h).1];exact h
theorem iS {x:List KR}:(eB (x++[y]))[(eB x).length]?=some y.1:=by rw [wC,Bx (jd _),Nat.sub_self];rfl
theorem dg {t:Nat} (S:t<55):aL HJ (t+1)=some (.aj 3 (8+10*(t+1))):=by unfold HJ;rw [aH,List.getElem?_map,List.getElem?_range (FN S)];show some (if 1≤t+1∧t+1≤55 then _ else _)=_;rw [bk ⟨by exact QJ S,by exact QK S⟩]
noncomputable abbrev wI (t:Nat):Option Bool:=n7 PG (.int (.ofNat t)) (.fn 48)
theorem Au:((List.range 55).all fun t=>Nat.ble (fN (t+1) 5).length 3&&match wI (t+1) with
  |some b=>match b with
   |true=>true
   |false=>(iA 8 (.int (fq (t+1))) (I 2)&&Nat.beq (fN (t+1) 5).length 1)||(!ck (fq (t+1)) (.ofNat 2)&&!ck (fq (t+1)) (.ofNat 5))
  |none=>false)=true:=by kernel_rfl
theorem vg {t:Nat} (S:t<55):(fN (t+1) 5).length≤3:=af (gh Au t (nV S)) fun x Z=>pG x
theorem Aw {b:Bool} (h:(!b)=true):b=false:=by cases b<;>first|rfl|exact nof h
theorem Ed {R:Prop} {t:Nat} (S:t<55) (h:wI (t+1)=some false) (f:fq (t+1)= .ofNat 2→(fN (t+1) 5).length=1→R) (g:ck (fq (t+1)) (.ofNat 2)=false→ck (fq (t+1)) (.ofNat 5)=false→R):R:=by refine af (gh Au t (nV S)) fun Z e=>?_;rw [h] at e;refine c7 e (fun e=>af e fun a b=>f (jQ (cZ a)) (ie b)) fun e=>af e fun a b=>g (Aw a) (Aw b)
section
variable {n:Nat} {E B C D K L J M N Q U A:Rg} {Φ:zP} {c t i:Nat} {x:List KR} {g:TC}
theorem FS.el {R:Prop} (F:FS g x) (f:∀v0 v1 v2 v3 v4 v5 v6 w,g.get 0=some (stC v0 3)→g.get 1=some (tK 3 v1)→g.get 2=some ⟨v2,.list (eB x)⟩→g.get 3=some ⟨v3,.dict .r (iI 0 (eB x))⟩→g.get 4=some ⟨v4,.list (vt x)⟩→g.get 5=some ⟨v5,.list (wQ x)⟩→g.get 6=some ⟨v6,.list (tL x)⟩→g.get 13=some ⟨w,.list HJ⟩→R):R:=by refine aA F.st fun v0 s=>aA F.kt fun v1 o=>aA F.rw fun v2 h2=>aA F.ki fun v3 Z=>aA F.dp fun v4 h4=>aA F.wt fun v5 h5=>aA F.op fun v6 h6=>aA F.ty fun w h7=>f _ _ _ _ _ _ _ _ s o h2 Z h4 h5 h6 h7
abbrev HV (x:List KR) (j k:Nat):Prop:=(eB x)[k]?=some (.ai [I 6,I j])
abbrev jC (x:List KR) (ks:List Nat):Prop:=∀j k,ks[j]?=some k→HV x j k
theorem jC.mono {ks:List Nat} (h:jC x ks):jC (x++[y]) ks:=fun j k e=>AQ (h j k e)
theorem jC.app {ks:List Nat} {k:Nat} (h:jC x ks) (e:HV x ks.length k):jC x (ks++[k]):=fun j k' O=>by
 by_cases q:j<ks.length
 ·rw [uR q] at O;exact h j k' O
 ·rw [Bx (QH q)] at O
  cases q':j -ks.length with
  |zero=>rw [q'] at O;cases O;have:j=ks.length:=OY q' q;subst this;exact e
  |succ m=>rw [q'] at O;exact nomatch O
noncomputable abbrev Q0 (t c:Nat):Lc:=[(68,.aj 3 0),(24,I (t+1)),(73,.aj 3 (8+10*(t+1))),(22,.aj 6 c)]
def Lh (E B C K L J M N Q U A:Rg) (x:List KR) (t i:Nat) (σ:ah) (ls:Lc):Prop:=∃X P x' ks v,σ=[E,B,C,X,K,L,P,M,N,Q,U,A]∧FS X.t x'∧x'.length≤x.length+i∧ks.length=i∧jC x' ks∧P.t.get J.n=some ⟨v,.list (ks.map I)⟩∧ym J P∧((i=0∧ls=Q0 t J.n)∨0<i∧∃d,ls=Q0 t J.n++[(67,d)])
theorem CW {J:Rg} {σ:ah} {ls:Lc} (H:Lh E B C K L J M N Q U A x t i σ ls) (hi:i≤9) (Y:x.length≤99):ao (fun r u BF=>r= .f .next∧Lh E B C K L J M N Q U A x t (i+1) u BF) (run PG (n+60) false 6 (.ss (i8 (l_ 3))) σ (aV ls 67 (I i))):=by
 obtain ⟨X,P,x',ks,v,rfl,F,T,hk,V,hc,G,hls⟩:=H;have e1:aV ls 67 (I i)=Q0 t J.n++[(67,I i)]:=by rcases hls with ⟨_,rfl⟩|⟨_,d,rfl⟩<;>rfl
 rw [e1];refine F.el fun v0 v1 v2 v3 v4 v5 v6 w s o h2 Z h4 h5 h6 h7=>?_;have sm:=aB (n:=(ks.map I).length) (by rw [List.length_map];exact O2 hk hi);have gr:∀{c:Cell},ym J ⟨P.n,.aq J.n c P.t⟩:=⟨G.1,fun j O=>by rw [TC.ay,aS (HE O)];exact G.2 j O⟩
 have mp:∀{k:Nat},ks.map I++[I k]=(ks++[k]).map I:=fun {k}=>by rw [List.map_append];rfl
 rcases F.get (row:= .ai [I 6,I i]) rfl with ⟨p,hp,hg⟩|⟨hg,hs⟩
 ·refine WL hc s o Z hg sm ⟨rfl,X,⟨P.n,_⟩,x',ks++[p],v+1,rfl,F,by exact O4 hk T,by rw [fO,hk];rfl,V.app (hk▸hp),?_,gr,.inr ⟨by exact Jq hk hi,_,rfl⟩⟩
  rw [TC.ay,bk rfl,←mp]
 ·refine WK hc s o Z hg h2 (aB (by rw [aI];exact z5 hk T hi Y)) (aB (by rw [gS,aI];exact z5 hk T hi Y)) h4 (aB (by unfold vt;rw [cP];exact z5 hk T hi Y)) h5 (aB (by unfold wQ;rw [cP];exact z5 hk T hi Y)) h6 (aB (by unfold tL;rw [cP];exact z5 hk T hi Y)) sm ⟨rfl,⟨X.n,_⟩,⟨P.n,_⟩,x'++[(.ai [I 6,I i],1,1,1)],ks++[(eB x').length],v+1,rfl,F.new (dp:=1) (wt:=1) (op:=1) ⟨rfl,fun W W=>rfl⟩ hs,by rw [fO];show x'.length+1≤_;exact O5 hk T,by rw [fO,hk];rfl,V.mono.app (hk▸iS),?_,gr,.inr ⟨by exact Jq hk hi,_,rfl⟩⟩
  rw [TC.ay,bk rfl,←mp]
end
end
section
theorem JX {a b c d e:DV} {l:zL} {P:Prop} (h:DV.ai (a::b::c::l)= .ai [d,e]):P:=by cases h
theorem tQ {n:Nat} (h:0<n):(some !Nat.blt 0 n)=some false:=cH (OX h)
section
variable {n:Nat} {E B C D L M J N O Q U A:Rg} {Φ:zP} {c t i:Nat} {x:List KR} {g:TC}
abbrev HU (P:Nat→ah→Prop) (E B C L M J N O Q U A:Rg) (x:List KR) (t s:Nat):Prop:=∀w u x' k ks,FS w.t x'→x'.length≤x.length+4→(eB x')[k]?=some (.ai [I s,I (t+1),.ai (ks.map I)])→ks.length=(fN (t+1) 5).length→jC x' ks→ym J u→P k [E,B,C,w,L,M,u,N,O,Q,U,A]
theorem GC {σ:ah} {ls:Lc} {P:Nat→ah→Prop} (R:t<55) (hx:x.length≤90) (T:wI (t+1)=some false) (H:Lh E B C L M J N O Q U A x t (fN (t+1) 5).length σ ls) (X:∀k σ ls,P k σ→Φ (.f (.ret (I k))) σ ls) (p2:ck (fq (t+1)) (.ofNat 2)=false→HU P E B C L M J N O Q U A x t 2) (p3:fq (t+1)= .ofNat 2→HU P E B C L M J N O Q U A x t 3):ao Φ (run PG (n+195) false 6 (.ss [l_ 4]) σ ls):=by
 obtain ⟨w,u,x',ks,v,rfl,F,hl,hk,V,o,G,Y⟩:=H;have Z:=vg R;refine aA (F.td t R) fun vy y=>F.el fun v0 v1 v2 v3 v4 v5 v6 v7 h0 h1 h2 h3 h4 h5 h6 h7=>?_;rw [←hk] at Y Z;have q3:x'.length≤x.length+3:=fQ hl (Nat.add_le_add_left (hk▸Z) _);have S:22+x'.length≤5000:=fQ (Nat.add_le_add_left (fQ q3 (Nat.add_le_add_right hx 3)) 22) aD;refine Ed R T (fun so cn=>?_) fun i2 i5=>?_
 ·have p:=p3 so
  rw [so] at y;rw [←hk] at cn;obtain ⟨k0,rfl⟩:∃k0,ks=[k0]:=List.length_eq_one_iff.mp cn;refine aA ((Y.resolve_left fun z=>nomatch z.1).2) fun d q=>?_;subst q;have V0:=V 0 k0 rfl;have r:=jv F V0;have G0:=iN V0;have L0:k0<22+x'.length:=aI▸(jy V0).1;rcases F.get (row:= .ai [I 3,I (t+1),.ai [I k0]]) rfl with ⟨p',hp,hg⟩|⟨hg,hs⟩
  ·exact Kw (n:=n+105) o h0 h7 (aB (cM R)) (dg R) y T h1 h3 hg (X _ _ _ (p w u x' p' [k0] F (Nat.le_succ_of_le q3) hp hk V G))
  ·exact Kv (n:=n+105) o h0 h7 (aB (cM R)) (dg R) y T h1 h3 hg h2 (aB (by rw [aI];exact S)) (aE.1 (jy V0).1) (aB (Nat.le_of_lt (tM L0 S))) (aH.trans V0) (tQ (r8 R)) (bH (bU (uv G0))) (bH (bU (uw G0))) h4 r.1 h5 r.2.1 h6 r.2.2 (aB (by rw [gS,aI];exact S)) (aB (by unfold vt;rw [cP];exact S)) (aB (by unfold wQ;rw [cP];exact S)) (aB (by unfold tL;rw [cP];exact S)) (X _ _ _ (p ⟨w.n,_⟩ u (x'++[(.ai [I 3,I (t+1),.ai [I k0]],2,2,1)]) (eB x').length [k0] (F.new (dp:=2) (wt:=2) (op:=1) ⟨rfl,fun W h=>JX h⟩ hs) (by rw [fO];exact Nat.succ_le_succ q3) iS hk V.mono G))
 ·have p:=p2 i2
  revert Y;revert o;revert V;revert hk;refine vQ Z (fun hk V o Y=>?_) (fun k0 hk V o Y=>?_) (fun k0 k1 hk V o Y=>?_) fun k0 k1 k2 hk V o Y=>?_
  ·obtain rfl:=(Y.resolve_right fun z=>absurd z.1 (Nat.lt_irrefl _)).2
   rcases F.get (row:= .ai [I 2,I (t+1),.ai []]) rfl with ⟨p',hp,hg⟩|⟨hg,hs⟩
   ·exact J_ (n:=n+105) o h0 h7 (aB (cM R)) (dg R) y (by rw [i2]) (by rw [i5]) T h1 h3 hg (X _ _ _ (p w u x' p' [] F (Nat.le_succ_of_le q3) hp hk V G))
   ·exact J9 (n:=n+105) o h0 h7 (aB (cM R)) (dg R) y (by rw [i2]) (by rw [i5]) T h1 h3 hg (tQ (r8 R)) h2 (aB (by rw [aI];exact S)) (aB (by rw [gS,aI];exact S)) h4 (aB (by unfold vt;rw [cP];exact S)) h5 (aB (by unfold wQ;rw [cP];exact S)) h6 (aB (by unfold tL;rw [cP];exact S)) (X _ _ _ (p ⟨w.n,_⟩ u (x'++[(.ai [I 2,I (t+1),.ai []],1,1,0)]) (eB x').length [] (F.new (dp:=1) (wt:=1) (op:=0) ⟨rfl,fun W h=>JX h⟩ hs) (by rw [fO];exact Nat.succ_le_succ q3) iS hk V.mono G))
  ·refine aA ((Y.resolve_left fun z=>nomatch z.1).2) fun d q=>?_;subst q
   have V0:=V 0 k0 rfl;have r:=jv F V0;have G0:=iN V0;have L0:k0<22+x'.length:=aI▸(jy V0).1;rcases F.get (row:= .ai [I 2,I (t+1),.ai [I k0]]) rfl with ⟨p',hp,hg⟩|⟨hg,hs⟩
   ·exact Ka (n:=n+105) o h0 h7 (aB (cM R)) (dg R) y (by rw [i2]) (by rw [i5]) T h1 h3 hg (X _ _ _ (p w u x' p' [k0] F (Nat.le_succ_of_le q3) hp hk V G))
   ·exact J' (n:=n+105) o h0 h7 (aB (cM R)) (dg R) y (by rw [i2]) (by rw [i5]) T h1 h3 hg h2 (aB (by rw [aI];exact S)) (aE.1 (jy V0).1) (aB (Nat.le_of_lt (tM L0 S))) (aH.trans V0) (tQ (r8 R)) (bH (bU (uv G0))) (bH (bU (uw G0))) h4 r.1 h5 r.2.1 h6 r.2.2 (aB (by rw [gS,aI];exact S)) (aB (by unfold vt;rw [cP];exact S)) (aB (by unfold wQ;rw [cP];exact S)) (aB (by unfold tL;rw [cP];exact S)) (X _ _ _ (p ⟨w.n,_⟩ u (x'++[(.ai [I 2,I (t+1),.ai [I k0]],2,2,1)]) (eB x').length [k0] (F.new (dp:=2) (wt:=2) (op:=1) ⟨rfl,fun W h=>JX h⟩ hs) (by rw [fO];exact Nat.succ_le_succ q3) iS hk V.mono G))
  ·refine aA ((Y.resolve_left fun z=>nomatch z.1).2) fun d q=>?_;subst q
   have V0:=V 0 k0 rfl;have r:=jv F V0;have G0:=iN V0;have L0:k0<22+x'.length:=aI▸(jy V0).1;have V1:=V 1 k1 rfl;have D1:=jv F V1;have G1:=iN V1;have L1:k1<22+x'.length:=aI▸(jy V1).1;rcases F.get (row:= .ai [I 2,I (t+1),.ai [I k0,I k1]]) rfl with ⟨p',hp,hg⟩|⟨hg,hs⟩
   ·exact Kd (n:=n+105) o h0 h7 (aB (cM R)) (dg R) y (by rw [i2]) (by rw [i5]) T h1 h3 hg (X _ _ _ (p w u x' p' [k0,k1] F (Nat.le_succ_of_le q3) hp hk V G))
   ·exact Kc (n:=n+105) o h0 h7 (aB (cM R)) (dg R) y (by rw [i2]) (by rw [i5]) T h1 h3 hg h2 (aB (by rw [aI];exact S)) (aE.1 (jy V0).1) (aB (Nat.le_of_lt (tM L0 S))) (aH.trans V0) (aE.1 (jy V1).1) (aB (Nat.le_of_lt (tM L1 S))) (aH.trans V1) (tQ (r8 R)) (bH (bU (uv G0))) (bH (bU (uw G0))) (bH (bU (uv G1))) (bH (bU (uw G1))) h4 r.1 h5 r.2.1 h6 r.2.2 D1.1 D1.2.1 D1.2.2 (aB (by rw [gS,aI];exact S)) (aB (by unfold vt;rw [cP];exact S)) (aB (by unfold wQ;rw [cP];exact S)) (aB (by unfold tL;rw [cP];exact S)) (X _ _ _ (p ⟨w.n,_⟩ u (x'++[(.ai [I 2,I (t+1),.ai [I k0,I k1]],2,3,1)]) (eB x').length [k0,k1] (F.new (dp:=2) (wt:=3) (op:=1) ⟨rfl,fun W h=>JX h⟩ hs) (by rw [fO];exact Nat.succ_le_succ q3) iS hk V.mono G))
  ·refine aA ((Y.resolve_left fun z=>nomatch z.1).2) fun d q=>?_;subst q
   have V0:=V 0 k0 rfl;have r:=jv F V0;have G0:=iN V0;have L0:k0<22+x'.length:=aI▸(jy V0).1;have V1:=V 1 k1 rfl;have D1:=jv F V1;have G1:=iN V1;have L1:k1<22+x'.length:=aI▸(jy V1).1;have V2:=V 2 k2 rfl;have D2:=jv F V2;have G2:=iN V2;have L2:k2<22+x'.length:=aI▸(jy V2).1;rcases F.get (row:= .ai [I 2,I (t+1),.ai [I k0,I k1,I k2]]) rfl with ⟨p',hp,hg⟩|⟨hg,hs⟩
   ·exact Kf (n:=n+105) o h0 h7 (aB (cM R)) (dg R) y (by rw [i2]) (by rw [i5]) T h1 h3 hg (X _ _ _ (p w u x' p' [k0,k1,k2] F (Nat.le_succ_of_le q3) hp hk V G))
   ·exact Ke (n:=n+105) o h0 h7 (aB (cM R)) (dg R) y (by rw [i2]) (by rw [i5]) T h1 h3 hg h2 (aB (by rw [aI];exact S)) (aE.1 (jy V0).1) (aB (Nat.le_of_lt (tM L0 S))) (aH.trans V0) (aE.1 (jy V1).1) (aB (Nat.le_of_lt (tM L1 S))) (aH.trans V1) (aE.1 (jy V2).1) (aB (Nat.le_of_lt (tM L2 S))) (aH.trans V2) (tQ (r8 R)) (bH (bU (uv G0))) (bH (bU (uw G0))) (bH (bU (uv G1))) (bH (bU (uw G1))) (bH (bU (uv G2))) (bH (bU (uw G2))) h4 r.1 h5 r.2.1 h6 r.2.2 D1.1 D1.2.1 D1.2.2 D2.1 D2.2.1 D2.2.2 (aB (by rw [gS,aI];exact S)) (aB (by unfold vt;rw [cP];exact S)) (aB (by unfold wQ;rw [cP];exact S)) (aB (by unfold tL;rw [cP];exact S)) (X _ _ _ (p ⟨w.n,_⟩ u (x'++[(.ai [I 2,I (t+1),.ai [I k0,I k1,I k2]],2,4,1)]) (eB x').length [k0,k1,k2] (F.new (dp:=2) (wt:=4) (op:=1) ⟨rfl,fun W h=>JX h⟩ hs) (by rw [fO];exact Nat.succ_le_succ q3) iS hk V.mono G))
theorem CV {P:Nat→ah→Prop} (F:FS D.t x) (hx:x.length≤90) (R:t<55) (T:wI (t+1)=some false) (X:∀k σ,P k σ→Φ (.v (I k)) σ []) (p2:ck (fq (t+1)) (.ofNat 2)=false→HU P E B C L M J N O Q U A x t 2) (p3:fq (t+1)= .ofNat 2→HU P E B C L M J N O Q U A x t 3):ao Φ (run PG (n+200) false 6 (.call 634 [.aj 3 0,I (t+1)]) [E,B,C,D,L,M,J,N,O,Q,U,A] []):=by
 have Z:=vg R;refine zF (n:=n+199) (mf:=fV) (bs:=[(68,.aj 3 0),(24,I (t+1))]) cg rfl rfl ?_;rw [show fV.body=l_ 0::l_ 1::l_ 2::[.cj 67 (LC (l_ 3)) (i8 (l_ 3)),l_ 4] from cg];refine aA (F.td t R) fun vy y=>aA (F.pa t R) fun vp hp=>F.el fun v0 v1 v2 v3 v4 v5 v6 v7 h0 h1 h2 h3 h4 h5 h6 h7=>WI (n:=n+139) T h0 h7 (aB (cM R)) (dg R) ?_;refine rW (n:=n+195) (WJ (n:=n+135) y hp (aB (FI Z)) ⟨_,rfl,by exact FI Z,?_⟩);obtain ⟨m,hm⟩:∃m,n+195=(fN (t+1) 5).length+60+m+1:=⟨n+134 -(fN (t+1) 5).length,by exact Ph Z⟩
 rw [hm];refine lV (K:=60) (tot:=(fN (t+1) 5).length) (Iv:=Lh E B C L M J N O Q U A x t) (fun i σ ls m hi h=>CW h (Po hm hi Z) (Ju hx)) CD ?_ fun σ ls h=>?_
 ·exact ⟨D,⟨J.n+1,_⟩,x,[],0,rfl,F,by exact Pr,rfl,(fun j k h=>nomatch (List.getElem?_nil.symm.trans h)),(by rw [TC.ay,bk rfl];rfl),⟨Nat.le_succ _,fun j hj=>by rw [TC.ay,aS (HE hj)]⟩,.inl ⟨rfl,rfl⟩⟩
 ·rw [←hm]
  exact GC (n:=n) R hx T h (fun k σ ls h=>X k σ h) p2 p3
end
end
section
variable {N b t s:Nat}
theorem Ck {Ψ:zP} {m av x i:Nat} {b:List MS} {σ:ah} {ls:Lc} (p:ao (fun r Y g=>match r with| .f fl=>(match fl with| .next=>ao Ψ (run PG m false av (.cj x none (uF (i+1) N) b) Y g)| .ret d=>Ψ (.f (.ret d)) Y g)|_=>False) (run PG m false av (.ss b) σ (aV ls x (I i)))):ao Ψ (run PG (m+1) false av (.cj x none (uF i (N+1)) b) σ ls):=by
 show ao Ψ (c_ ls x (I i) fun ls=>yo (run PG m false av (.ss b) σ ls) fun σ ls=>nN false σ none (run PG m false av (.cj x none (uF (i+1) N) b) σ ls));rw [cU];exact ao.aT (p.mono fun r σ ls h=>by
  cases r with
  |f fl=>cases fl<;>exact h
  |_=>exact h.elim)
theorem GS:((List.range 55).all fun t=>match gZ (t+1) with
  | .ofNat _=>!ck (fq (t+1)) (.ofNat 3)
  | .negSucc _=>true)=true:=by kernel_rfl
theorem KI (S:t<55) (h:gZ (t+1)= .ofNat b):ck (fq (t+1)) (.ofNat 3)=false:=by have e:=gh GS t (nV S);rw [h] at e;exact Aw e
theorem EH:((List.range 22).all fun b=>Nat.blt b 16&&!Nat.beq b 12||match aL dO b with
  |some d=>Nat.beq b 12&&iA 8 d (.ai [I 1,I 12])||(List.range 55).any fun t=>iA 8 d (.ai [I 2,I (t+1),.ai []])
  |none=>false)=true:=by kernel_rfl
theorem EK:((List.range 55).all fun t=>match gZ (t+1) with
  | .ofNat b=>Nat.beq b 12||Nat.ble 16 b
  | .negSucc _=>true)=true:=by kernel_rfl
theorem Ia {R:Prop} (S:t<55) (h:gZ (t+1)= .ofNat b) (h12:b=12→ia (t+1)= .ai [I 1,I 12]→R) (o:∀s,s<55→16≤b→b<22→aL dO b=some (.ai [I 2,I (s+1),.ai []])→ia (t+1)= .ai [I 2,I (s+1),.ai []]→R):R:=by
 refine yP S (fun b' hb hd hb2 hp=>?_) fun e Z=>nomatch (h.symm.trans e);cases (Int.ofNat.inj (h.symm.trans hb):b=b');have e:=gh EH b (nV hb2);have e2:=gh EK t (nV S);rw [h] at e2;rw [hd] at e;have nb:¬(b<16∧b≠12):=fun z=>c7 e2 (fun y=>z.2 (ie y)) fun y=>by have:=pG y;omega
 refine c7 e (fun e=>af e fun a c=>absurd ⟨dD a,fun y=>by rw [y,Nat.beq_refl] at c;exact nof c⟩ nb) fun e=>c7 e (fun e=>af e fun a c=>h12 (ie a) (cZ c)) fun e=>?_
 ·refine az (List.any_eq_true.mp e) fun s hs e=>?_
  have e:=cZ e;rw [e] at hd;refine o s (List.mem_range.mp hs) ?_ hb2 hd e;refine je fun z=>?_;have:b=12:=by
   by_cases y:b=12
   ·exact y
   ·exact absurd ⟨z,y⟩ nb
  subst this;exact nomatch (hd.symm.trans (show aL dO 12=some (.ai [I 1,I 12]) from cg))
theorem oK {q:DV→DV→Bool}:∀{l:zL},(∀d∈l,q d d=true)→tX q l l=true
 |[],_=>rfl
 |d::l,h=>by show (match q d d with|true=>tX q l l|false=>false)=true;rw [h d (.head _)];exact oK fun e he=>h e (.tail _ he)
theorem rK:∀{F f:Nat} {d:DV},f≤F→wj f d=true→iA F d d=true
 |F,0,_,_,h=>nof h
 |0,f+1,_,h,_=>absurd h (Nat.not_succ_le_zero _)
 |F+1,f+1,d,hf,h=>by
  cases d with
  |none=>rfl
  |int i=>exact bJ.trans (gH rfl)
  |str s=>exact b9.trans (gH rfl)
  |ai l=>exact oK fun d hd=>rK (Nat.le_of_succ_le_succ hf) (gh h d hd)
  |_=>exact nof h
theorem EC:((List.range 22).all fun b=>match aL dO b with
  |some d=>match d with
   | .ai l=>match l with
    |_::e::_::_=>match e with
     | .int i=>match i with
      | .ofNat s=>iA 8 (.int (gZ s)) (I 12)||match gZ s with
       | .ofNat b'=>match aL dO b' with
        |some d=>(List.range 55).all fun s=>!iA 8 d (.ai [I 2,I (s+1),.ai []])||iA 8 (.int (gZ (s+1))) (I 12)
        |none=>false
       |_=>false
      |_=>true
     |_=>true
    |_=>true
   |_=>true
  |none=>true)=true:=by kernel_rfl
theorem HY {R:Prop} (hb:b<22) (h:aL dO b=some (.ai [I 2,I (s+1),.ai []])) (u:gZ (s+1)= .ofNat 12→R) (o:(∀b' Z,Z<55→gZ (s+1)= .ofNat b'→aL dO b'=some (.ai [I 2,I (Z+1),.ai []])→gZ (Z+1)= .ofNat 12)→R):R:=by have e:=gh EC b (nV hb);rw [h] at e;refine c7 e (fun e=>u (jQ (cZ e))) fun e=>o fun b' Z v e1 e2=>?_;have e:(match gZ (s+1) with| .ofNat b'=>(match aL dO b' with|some d=>(List.range 55).all fun s=>!iA 8 d (.ai [I 2,I (s+1),.ai []])||iA 8 (.int (gZ (s+1))) (I 12)|none=>false)|_=>false)=true:=e;rw [e1] at e;have e:(match aL dO b' with|some d=>(List.range 55).all fun s=>!iA 8 d (.ai [I 2,I (s+1),.ai []])||iA 8 (.int (gZ (s+1))) (I 12)|none=>false)=true:=e;rw [e2] at e;have e:((List.range 55).all fun s=>!iA 8 (.ai [I 2,I (Z+1),.ai []]) (.ai [I 2,I (s+1),.ai []])||iA 8 (.int (gZ (s+1))) (I 12))=true:=e;refine c7 (gh e Z (nV v)) (fun e=>?_) fun e=>jQ (cZ e);have t:iA 8 (.ai [I 2,I (Z+1),.ai []]) (.ai [I 2,I (Z+1),.ai []])=true:=rK (f:=4) aD rfl;rw [t] at e;exact nof e
section
variable {E C D G H K J L M Q U A:Rg} {x:List KR} {q ak B cn u5:Nat} {d T:DV}
noncomputable abbrev JQ (q ak B cn:Nat) (d T:DV) (k:Nat) (ab:DV):Lc:=[(68,.aj 6 q),(90,.aj 1 8),(24,I ak),(12,.aj 1 B),(4,I cn),(13,I k),(103,d),(104,T),(95,ab)]
def pJ (E C D G H K J L M Q U A:Rg) (q ak B cn:Nat) (d T:DV) (k:Nat) (ab:DV) (N:Nat):Prop:=∀(i m:Nat) (Ψ:zP) (ls:Lc),(ls=JQ q ak B cn d T k ab∨∃e,ls=JQ q ak B cn d T k ab++[(26,e)])→(∀ls,Ψ (.f (.ret (.bool true))) [E,C,D,G,H,K,J,L,M,Q,U,A] ls)→ao Ψ (run PG (m+N+90) false 6 (.cj 26 none (uF i N) (i8 (bB 12))) [E,C,D,G,H,K,J,L,M,Q,U,A] ls)
theorem pJ.ini {k:Nat} {ab:DV} (h:∀i m Ψ,(∀ls,Ψ (.f (.ret (.bool true))) [E,C,D,G,H,K,J,L,M,Q,U,A] ls)→ao (fun r Y g=>match r with| .f fl=>(match fl with| .next=>ao Ψ (run PG (m+N+90) false 6 (.cj 26 none (uF (i+1) N) (i8 (bB 12))) Y g)| .ret d=>Ψ (.f (.ret d)) Y g)|_=>False) (run PG (m+N+90) false 6 (.ss (i8 (bB 12))) [E,C,D,G,H,K,J,L,M,Q,U,A] (JQ q ak B cn d T k ab++[(26,I i)]))):pJ E C D G H K J L M Q U A q ak B cn d T k ab (N+1):=fun i m Ψ ls hls P=>by
 have e1:aV ls 26 (I i)=JQ q ak B cn d T k ab++[(26,I i)]:=by rcases hls with rfl|⟨e,rfl⟩<;>rfl
 rw [show m+(N+1)+90=m+N+90+1 by exact O6];refine Ck ?_;rw [e1];exact h i m Ψ P
variable (F:FS G.t x) (V:x.length≤99) (HM:dz a0 C U) (n:J.t.get q=some ⟨u5,.var (some (.aj 3 0))⟩)
include F V HM n
theorem E7:pJ E C D G H K J L M Q U A q ak B cn d T 12 (.ai []) (N+1):=pJ.ini fun i m Ψ P=>F.el fun v0 v1 v2 v3 v4 v5 v6 v7 h0 u o h3 h4 h5 h6 h7=>TV n h0 (P _)
theorem Uh:pJ E C D G H K J L M Q U A q ak B cn d T 0 (.ai []) (N+1):=pJ.ini fun i m Ψ P=>F.el fun v0 v1 v2 v3 v4 v5 v6 v7 h0 u o h3 h4 h5 h6 h7=>TS n h0 (P _)
theorem Sj:b8 (iI 0 (eB x)) (.ai [I 2,I 2,.ai []]) (.int (.negSucc 0))=some (I 16):=by rw [lX];exact mW (jG cg)
theorem cls {k:Nat} {ab:DV} (S:t<55) (hk:(eB x)[k]?=some (.ai [I 2,I (t+1),ab])) (Uv:16≤k) (gs:∀b s,s<55→16≤b→b<22→aL dO b=some (.ai [I 2,I (s+1),.ai []])→gZ (t+1)= .ofNat b→pJ E C D G H K J L M Q U A q ak B cn d T b (ia (s+1)) (N+1)):pJ E C D G H K J L M Q U A q ak B cn d T k (ia (t+1)) (N+2):=pJ.ini fun i m Ψ P=>by
 refine az HM fun my X O=>aA (F.td t S) fun vy hy=>?_;have kl:=(jy hk).1;have hk:=(aH (l:=eB x) (i:=k)).trans hk;have ln:=aI (x:=x);refine F.el fun v0 v1 v2 v3 v4 v5 v6 v7 h0 u o h3 h4 h5 h6 h7=>?_;have CC:some (k.blt 16)=some false:=jE (Jr Uv);have tn:(some !Nat.blt 0 (t+1))=some false:=tQ (r8 S);have Rl:(some !(t+1).blt HJ.length)=some false:=aE.1 (by show t+1<64;exact FN S);have op:∀{b:Nat},b<22→aL (tL x) b=some (I 0):=fun {b} h=>by unfold tL;rw [aH,uR (by rw [List.length_replicate];exact h),List.getElem?_replicate_of_lt h]
 cases e:gZ (t+1) with
 |negSucc j=>refine yP S (fun b hb Z Z Z=>nomatch (e.symm.trans hb)) fun hb hm=>?_;rw [hb] at hy;rw [hm];exact TU n h0 CC u o (aB (n8 ln V)) (aE.1 (k1 kl)) (aB (CE kl ln V)) hk tn h7 (aB (by show 64≤5000;decide)) Rl (aB (cM S)) (dg S) hy (P _)
 |ofNat b=>
  have so:=KI S e;rw [e] at hy;refine Ia S e (fun hb hm=>?_) fun s hs w b2 hr hm=>?_
  ·subst hb
   rw [hm];refine cX (t:=0) X O aD fun u0 u1 u2 m0 m1 m2 m3=>TY n h0 CC u o (aB (n8 ln V)) (aE.1 (k1 kl)) (aB (CE kl ln V)) hk tn h7 (aB (by show 64≤5000;decide)) Rl (aB (cM S)) (dg S) hy (by rw [so]) (aE.1 (FH ln V)) (aB aD) (jU cg) h6 (op aD) m0 m1 m2 m3 ?_;rw [show ia 1= .ai [] from cg];exact E7 F V HM n _ _ _ _ (.inr ⟨_,rfl⟩) P
  ·rw [hm]
   refine cX (t:=s) X O hs fun u0 u1 u2 m0 m1 m2 m3=>TZ n h0 CC u o (aB (n8 ln V)) (aE.1 (k1 kl)) (aB (CE kl ln V)) hk tn h7 (aB (by show 64≤5000;decide)) Rl (aB (cM S)) (dg S) hy (by rw [so]) (aE.1 (Pb w b2 ln V)) (aB (Pc w b2)) (jU hr) h6 (op (Pd w b2)) ?_ m0 m1 (aB (cM hs)) m2 m3 ?_
   ·show lI (EZ _ _ _)=some false
    rw [show EZ [E,C,D,G,H,K,J,L,M,Q,U,A] (.ai [I 2,I (s+1),.ai []]) (.ai [I 2,I (s+1),.ai []])=some true from ?_]
    ·rfl
    ·show (match uc _ (eqT _ 8) (.ai [I 2,I (s+1),.ai []]) (.ai [I 2,I (s+1),.ai []])||_ with|true=>some true|false=>none)=some true
     rw [show uc [E,C,D,G,H,K,J,L,M,Q,U,A] (eqT _ 8) (.ai [I 2,I (s+1),.ai []]) (.ai [I 2,I (s+1),.ai []])=true from dj fun d hd=>ek (f:=3) aD (by simp only [List.mem_cons,List.not_mem_nil,or_false] at hd;rcases hd with rfl|rfl|rfl<;>rfl)]
     rfl
   ·exact gs b s hs w b2 hr e _ _ _ _ (.inr ⟨_,rfl⟩) P
theorem II (hs:s<55) (w:16≤b) (b2:b<22) (hr:aL dO b=some (.ai [I 2,I (s+1),.ai []])) (h:gZ (s+1)= .ofNat 12):pJ E C D G H K J L M Q U A q ak B cn d T b (ia (s+1)) (N+2):=
 cls F V HM n hs (by rw [←aH];exact jU hr) w fun b' Z Y u Y Y e=>absurd (Int.ofNat.inj (h.symm.trans e)) (by omega)
theorem MD (hs:s<55) (w:16≤b) (b2:b<22) (hr:aL dO b=some (.ai [I 2,I (s+1),.ai []])):pJ E C D G H K J L M Q U A q ak B cn d T b (ia (s+1)) (N+3):=
 HY b2 hr (fun h=>II F V HM n hs w b2 hr h) fun h=>cls F V HM n hs (by rw [←aH];exact jU hr) w fun b' Z v u o hr' e=>II F V HM n v u o hr' (h b' Z v e hr')
end
end
section
variable {σ:ah} {N:Nat}
theorem gO {g:zP} {n av R:Nat} {ra:RA} {f:Addr} {as:List ME} {ls:Lc} (U9:∀σ ls k,yt false av ra σ ls k=k R σ) (p:ao (fun r j Z=>∃ds,r= .vs ds∧ao (fun r V Z=>match r with| .v d=>g (.v d) V ls| .y=>g .y V []|_=>False) (run PG n false R (.call f ds) j [])) (run PG n false av (.es as) σ ls)):ao g (run PG (n+1) false av (.e (.call none ra f as)) σ ls):=by
 revert p;show _→ao g (g6 (run PG n false av (.es as) σ ls) fun ds σ=>yt false av ra σ ls fun R σ=>DO (run PG n false R (.call f ds) σ []) fun d σ=> .ok (.v d) σ ls);refine fun p=>ao.aT (p.mono fun r j l' h=>?_);refine az h fun ds iY q=>?_;subst iY;clear p;revert q;show _→ao g (yt false av ra j ls fun R σ=>DO (run PG n false R (.call f ds) σ []) fun d σ=> .ok (.v d) σ ls);rw [U9];exact fun q=>ao.aT (q.mono fun r V l'' h=>by
  cases r with
  |v d=>exact h
  |y=>exact h
  |_=>exact h.elim)
theorem Gj:((List.range 55).all fun t=>match wI (t+1) with
  |some b=>match b with
   |true=>Nat.beq t 0||Nat.beq t 3||Nat.beq t 19||Nat.ble 8 t&&Nat.ble t 18&&iA 8 (ia (t+1)) (.ai [I 2,I 2,.ai []])
   |false=>!Nat.beq (t+1) 1&&!Nat.beq (t+1) 4&&!Nat.beq (t+1) 20&&(Nat.blt (t+1) 9||Nat.blt 19 (t+1))&&(!iA 8 (.int (fq (t+1))) (I 2)||iA 8 (ia (t+1)) (.ai [I 2,I 2,.ai []])&&iA 8 (.int (gZ (t+1))) (I 16))
  |none=>false)=true:=by kernel_rfl
theorem D6:∀{x:List KR} {k:Nat},k<16→(eB x)[k]?=some (.ai [I 1,I k]):=fun {x k} h=>by rw [uR (show k<dO.length by show k<22;exact OZ h)];unfold dO;rw [uR (by simp;exact O1 h),List.getElem?_map,List.getElem?_range h];rfl
theorem IJ {x:List KR} {k s:Nat} {l:zL} (hs:s≠1) (h:(eB x)[k]?=some (.ai (I s::l))):16≤k:=by refine je fun z=>hs ?_;rw [D6 z] at h;cases h;rfl
theorem ne_self {l m:zL} (h:lE (eqT σ 8) l m=true):fy PG σ .ne (.ai l) (.ai m)=some false:=by show lI (match lE (eqT σ 8) l m||_ with|true=>some true|false=>none)=some false;rw [h];rfl
theorem vF {F i:Nat}:eqT σ (F+1) (I i) (I i)=true:=ek (f:=1) O3 rfl
section
variable {n:Nat} {E C D H K M J P S Q U A:Rg} {g:zP} {x:List KR} {q ak B cn u5 t k s:Nat} {d w ab:DV} {L:zL}
theorem jJ (G:pJ E C D H K M J P S Q U A q ak B cn d w k ab 6) (Vj:∀ls,g (.f (.ret (.bool true))) [E,C,D,H,K,M,J,P,S,Q,U,A] ls):ao g (run PG (n+150) false 6 (.ss [bB 12,bB 13]) [E,C,D,H,K,M,J,P,S,Q,U,A] (JQ q ak B cn d w k ab)):=by rw [show bB 12= .cj 26 (.c (I 6)) (i8 (bB 12)) from cg];exact rW (n:=n+149) (e:= .c (I 6)) ⟨6,rfl,by decide,G 0 (n+53) _ _ (.inl rfl) Vj⟩
variable (F:FS H.t x) (T:x.length≤99) (a:dz a0 C U) (Z:J.t.get q=some ⟨u5,.var (some (.aj 3 0))⟩)
include F T a Z
theorem Uk (ht:t<55) (hk:(eB x)[k]?=some (.ai [I 3,I (t+1),ab])) (so:fq (t+1)= .ofNat 2) (hb:gZ (t+1)= .ofNat 16) (hm:ia (t+1)= .ai [I 2,I 2,.ai []]):pJ E C D H K M J P S Q U A q ak B cn d w k (ia (t+1)) (N+4):=pJ.ini fun i m Ψ Y=>by refine az a fun my X O=>aA (F.td t ht) fun vy hy=>?_;have kl:=(jy hk).1;have CC:=IJ aD hk;have hk:=(aH (l:=eB x) (i:=k)).trans hk;have ln:=aI (x:=x);rw [so,hb] at hy;refine F.el fun v0 v1 v2 v3 v4 v5 v6 v7 h0 h1 h2 h3 h4 h5 h6 h7=>cX (t:=1) X O aD fun u0 u1 u2 m0 m1 m2 m3=>?_;rw [hm];refine T6 Z h0 (jE (Jr CC)) h1 h2 (aB (n8 ln T)) (aE.1 (k1 kl)) (aB (CE kl ln T)) hk (tQ (r8 ht)) h7 (aB (by show 64≤5000;decide)) (aE.1 (by show t+1<64;exact FN ht)) (aB (cM ht)) (dg ht) hy h3 (Sj F T a Z) (aE.1 (Js ln T)) (jU cg) m0 m1 m2 m3<|MD F T a Z (s:=1) aD aD aD cg _ _ _ _ (.inr ⟨_,rfl⟩) Y
theorem Ui (u:1≤k) (o:k≤11):pJ E C D H K M J P S Q U A q ak B cn d w k (.ai [I 2,I 2,.ai []]) (N+4):=pJ.ini fun i m Ψ Y=>by refine az a fun my X O=>?_;have ln:=aI (x:=x);refine F.el fun v0 v1 v2 v3 v4 v5 v6 v7 h0 h1 h2 h3 h4 h5 h6 h7=>cX (t:=1) X O aD fun u0 u1 u2 m0 m1 m2 m3=>T4 Z h0 (d_ (O7 u o)) (aE.2 (O8 u o)) (aE.2 (O9 u o)) h1 h3 (Sj F T a Z) h2 (aB (n8 ln T)) (aE.1 (Js ln T)) (jU cg) m0 m1 m2 m3 ?_;exact MD F T a Z (s:=1) aD aD aD cg _ _ _ _ (.inr ⟨_,rfl⟩) Y
theorem Uj:pJ E C D H K M J P S Q U A q ak B cn d w 13 (.ai [I 1,I 12]) (N+2):=pJ.ini fun i m Ψ Y=>by refine az a fun my X O=>?_;have ln:=aI (x:=x);refine F.el fun v0 v1 v2 v3 v4 v5 v6 v7 h0 h1 h2 h3 h4 h5 h6 h7=>cX (t:=0) X O aD fun u0 u1 u2 m0 m1 m2 m3=>T5 Z h0 h1 h2 (aB (n8 ln T)) (aE.1 (FH ln T)) (jU cg) m0 m1 m2 m3 ?_;rw [show ia 1= .ai [] from cg];exact E7 F T a Z _ _ _ _ (.inr ⟨_,rfl⟩) Y
end
end
section
theorem JW {t:Nat} (j:t<55) (h:wI (t+1)=some false):(t+1≠1∧t+1≠4∧t+1≠20)∧(t+1<9∨19<t+1)∧(fq (t+1)= .ofNat 2→ia (t+1)= .ai [I 2,I 2,.ai []]∧gZ (t+1)= .ofNat 16):=by
 have e:=gh Gj t (nV j);rw [h] at e;have nb:∀{a b:Nat},(!Nat.beq a b)=true→a≠b:=fun h e=>by rw [e,Nat.beq_refl] at h;exact nof h
 refine af e fun e e5=>af e fun e e4=>af e fun e e3=>af e fun e1 e2=>⟨⟨nb e1,nb e2,nb e3⟩,c7 e4 (fun z=> .inl (dD z)) fun z=> .inr (dD z),fun so=>?_⟩
 rw [so] at e5;refine c7 e5 (fun z=>?_) fun z=>af z fun a b=>⟨cZ a,jQ (cZ b)⟩
 rw [show iA 8 (.int (.ofNat 2)) (I 2)=true from rfl] at z;exact nof z
section
variable {n:Nat} {E C D H K M J N P Q U A:Rg} {Φ:zP} {x:List KR} {q ak B cn u5 t k s m:Nat} {d mb ab:DV} {L:zL}
theorem rN {w0 w1:Nat} (F:FS H.t x) (R:x.length≤99) (p:dz a0 C U) (u:J.t.get q=some ⟨u5,.var (some (.aj 3 0))⟩) (j:t<55) (g:wI (t+1)=some false) (hk:(eB x)[k]?=some (.ai [I s,I (t+1),ab])) (hs:s=2∨s=3∧fq (t+1)= .ofNat 2) (g1:J.t.get m=some ⟨w0,.list L⟩) (g2:J.t.get (m+1)=some ⟨w1,.list L⟩) (hL:∀d∈L,Pl d) (Y:∀ls,Φ (.f (.ret (.bool true))) [E,C,D,H,K,M,J,N,P,Q,U,A] ls):ao Φ (run PG (n+392) false 6 (.ss (bB 7::bB 8::bB 9::bB 10::bB 11::[bB 12,bB 13])) [E,C,D,H,K,M,J,N,P,Q,U,A] [(68,.aj 6 q),(90,.aj 1 8),(24,I (t+1)),(12,.aj 1 (bT (t+1))),(4,I cn),(13,I k),(103,.ai [I s,I (t+1),.aj 6 m]),(104,.ai [I s,I (t+1),.aj 6 (m+1)])]):=by
 refine az p fun my X O=>?_;obtain ⟨⟨n1,n4,Q3⟩,hr,hv⟩:=JW j g;have CC:16≤k:=IJ (fun z=>hs.elim (fun q=>absurd (q.symm.trans z) aD) fun q=>absurd (q.1.symm.trans z) aD) hk;have G:pJ E C D H K M J N P Q U A q (t+1) (bT (t+1)) cn (.ai [I s,I (t+1),.aj 6 m]) (.ai [I s,I (t+1),.aj 6 (m+1)]) k (ia (t+1)) 6:=by
  rcases hs with rfl|⟨rfl,so⟩
  ·exact cls F R p u j hk CC fun b s hs b1 b2 hr Z=>MD F R p u hs b1 b2 hr
  ·exact Uk F R p u j hk so (hv so).2 (hv so).1
 refine cX X O j fun u0 u1 u2 m0 m1 m2 y=>?_;have T:ao Φ (run PG (n+389) false 6 (.ss (bB 10::bB 11::[bB 12,bB 13])) [E,C,D,H,K,M,J,N,P,Q,U,A] [(68,.aj 6 q),(90,.aj 1 8),(24,I (t+1)),(12,.aj 1 (bT (t+1))),(4,I cn),(13,I k),(103,.ai [I s,I (t+1),.aj 6 m]),(104,.ai [I s,I (t+1),.aj 6 (m+1)])]):=by refine ff (n:=n+329) (ne_self ?_) (bH (bU Q3)) y (jJ (n:=n+237) G Y);have ee:eqT [E,C,D,H,K,M,J,N,P,Q,U,A] 8 (.aj 6 (m+1)) (.aj 6 m)=true:=J1 (lR g2 g1 (dj fun d hd=>ek (F:=7) (f:=4) aD (hL d hd)));show (match eqT _ 8 (I s) (I s) with|true=>(match eqT _ 8 (I (t+1)) (I (t+1)) with|true=>(match eqT _ 8 (.aj 6 (m+1)) (.aj 6 m) with|true=>true|false=>false)|false=>false)|false=>false)=true;rw [vF,vF,ee]
 rcases hr with hr|hr
 ·exact TQ (n:=n+332) (aE.1 hr) (bH (bU n1)) (bH (bU n4)) (bH (bU Q3)) T
 ·exact TP (n:=n+332) (aE.2 (O_ hr j)) (aE.1 hr) (bH (bU n1)) (bH (bU n4)) (bH (bU Q3)) T
theorem Mu {ks:List Nat} (F:FS H.t x) (R:x.length≤99) (p:dz a0 C U) (u:J.t.get q=some ⟨u5,.var (some (.aj 3 0))⟩) (Z:q<J.n) (j:t<55) (g:wI (t+1)=some false) (hs:s=2∧ck (fq (t+1)) (.ofNat 2)=false∨s=3∧fq (t+1)= .ofNat 2) (hk:(eB x)[k]?=some (.ai [I s,I (t+1),.ai (ks.map I)])) (hl:ks.length=(fN (t+1) 5).length) (V:jC x ks) (Y:∀r6 ls,Φ (.f (.ret (.bool true))) [E,C,D,H,K,M,r6,N,P,Q,U,A] ls):ao Φ (run PG (n+395) false 6 (.ss (bB 4::bB 5::bB 6::bB 7::bB 8::bB 9::bB 10::bB 11::[bB 12,bB 13])) [E,C,D,H,K,M,J,N,P,Q,U,A] [(68,.aj 6 q),(90,.aj 1 8),(24,I (t+1)),(12,.aj 1 (bT (t+1))),(4,I ks.length),(13,I k)]):=by
 refine az p fun my X O=>?_;have kl:=(jy hk).1;have o:k<22+x.length:=aI▸kl;have S:=hk;have hk:=(aH (l:=eB x) (i:=k)).trans hk;have h3:=vg j;have U8:q≠J.n+1:=lM (Nat.lt_succ_of_lt Z);have Z:q≠J.n:=by exact Jt Z
 have Y:∀{r6:Rg} ls,Φ (.f (.ret (.bool true))) [E,C,D,H,K,M,r6,N,P,Q,U,A] ls:=fun {r6} ls=>Y r6 ls;have gq:∀w v:Cell,(TC.aq (J.n+1) w (.aq J.n v J.t)).get q=some ⟨u5,.var (some (.aj 3 0))⟩:=fun w v=>by rw [TC.ay,aS U8,TC.ay,aS Z];exact u
 have g1:∀{w v:Cell},(TC.aq (J.n+1) w (.aq J.n v J.t)).get J.n=some v:=fun {w v}=>by rw [TC.ay,aS Pa,TC.ay,bk rfl]
 have g2:∀{w v:Cell},(TC.aq (J.n+1) w (.aq J.n v J.t)).get (J.n+1)=some w:=fun {w v}=>by rw [TC.ay,bk rfl]
 refine F.el fun v0 v1 v2 v3 v4 v5 v6 v7 h0 h1 h2 T h4 h5 h6 h7=>cX X O j fun u0 u1 u2 m0 m1 m2 y=>?_;rcases hs with ⟨rfl,i2⟩|⟨rfl,so⟩
 ·have h3':ks.length≤3:=hl▸h3
  revert S;revert hk;revert V;revert hl;refine vQ h3' (fun hl V hk S=>?_) (fun k0 hl V hk S=>?_) (fun k0 k1 hl V hk S=>?_) fun k0 k1 k2 hl V hk S=>?_
  ·exact Mn (n:=n+335) y (by rw [i2]) Z u h0 h1 h2 (aB (by rw [aI];exact z6 R)) (aE.1 kl) (aB (lH o R)) hk (rN (L:=[]) F R p (gq _ _) j g S (.inl rfl) g1 g2 (fun d hd=>nomatch hd) Y)
  ·have V0:=V 0 k0 rfl
   have r:=(jy V0).1;have L0:k0<22+x.length:=aI▸r;exact Mp (n:=n+335) y (by rw [i2]) Z u h0 h1 h2 (aB (by rw [aI];exact z6 R)) (aE.1 kl) (aB (lH o R)) hk (aE.1 r) (aB (lH L0 R)) (aH.trans V0) (rN (L:=[.ai [I 6,I 0]]) F R p (gq _ _) j g S (.inl rfl) g1 g2 (fun d hd=>by cases nW hd;rfl) Y)
  ·have V0:=V 0 k0 rfl
   have r:=(jy V0).1;have L0:k0<22+x.length:=aI▸r;have V1:=V 1 k1 rfl;have G1:=(jy V1).1;have L1:k1<22+x.length:=aI▸G1;exact Mq (n:=n+335) y (by rw [i2]) Z u h0 h1 h2 (aB (by rw [aI];exact z6 R)) (aE.1 kl) (aB (lH o R)) hk (aE.1 r) (aB (lH L0 R)) (aH.trans V0) (aE.1 G1) (aB (lH L1 R)) (aH.trans V1) (rN (L:=[.ai [I 6,I 0],.ai [I 6,I 1]]) F R p (gq _ _) j g S (.inl rfl) g1 g2 (fun d hd=>by simp only [List.mem_cons,List.not_mem_nil,or_false] at hd;rcases hd with rfl|rfl<;>rfl) Y)
  ·have V0:=V 0 k0 rfl
   have r:=(jy V0).1;have L0:k0<22+x.length:=aI▸r;have V1:=V 1 k1 rfl;have G1:=(jy V1).1;have L1:k1<22+x.length:=aI▸G1;have V2:=V 2 k2 rfl;have G2:=(jy V2).1;have L2:k2<22+x.length:=aI▸G2;exact Mr (n:=n+335) y (by rw [i2]) Z u h0 h1 h2 (aB (by rw [aI];exact z6 R)) (aE.1 kl) (aB (lH o R)) hk (aE.1 r) (aB (lH L0 R)) (aH.trans V0) (aE.1 G1) (aB (lH L1 R)) (aH.trans V1) (aE.1 G2) (aB (lH L2 R)) (aH.trans V2) (rN (L:=[.ai [I 6,I 0],.ai [I 6,I 1],.ai [I 6,I 2]]) F R p (gq _ _) j g S (.inl rfl) g1 g2 (fun d hd=>by simp only [List.mem_cons,List.not_mem_nil,or_false] at hd;rcases hd with rfl|rfl|rfl<;>rfl) Y)
 ·have cn:ks.length=1:=by refine Ed j g (fun T c=>hl.trans c) fun i2 T=>?_;rw [so] at i2;exact nof i2.symm
  obtain ⟨k0,rfl⟩:∃k0,ks=[k0]:=List.length_eq_one_iff.mp cn;rw [so] at y;have V0:=V 0 k0 rfl;have r:=(jy V0).1;have L0:k0<22+x.length:=aI▸r;exact Ms (n:=n+335) y Z u h0 h1 h2 (aB (by rw [aI];exact z6 R)) (aE.1 kl) (aB (lH o R)) hk (aE.1 r) (aB (lH L0 R)) (aH.trans V0) (rN (L:=[.ai [I 6,I 0]]) F R p (gq _ _) j g S (.inr ⟨rfl,so⟩) g1 g2 (fun d hd=>by cases nW hd;rfl) Y)
end
end
section
theorem AH:((List.range 55).all fun t=>match wI (t+1) with
  |some b=>match b with
   |true=>Nat.beq (fN (t+1) 5).length 0&&(Nat.beq t 0||Nat.beq t 3||Nat.beq t 19||Nat.ble 8 t&&Nat.ble t 18&&iA 8 (.int (fq (t+1))) (I 2)&&iA 8 (ia (t+1)) (.ai [I 2,I 2,.ai []]))
   |false=>true
  |none=>false)=true:=by kernel_rfl
theorem Eh {R:Prop} {t:Nat} (T:t<55) (h:wI (t+1)=some true) (f:(fN (t+1) 5).length=0→(t=0∨t=3∨t=19∨8≤t∧t≤18∧fq (t+1)= .ofNat 2∧ia (t+1)= .ai [I 2,I 2,.ai []])→R):R:=by have e:=gh AH t (nV T);rw [h] at e;exact af e fun a e=>f (ie a) (c7 e (fun e=>c7 e (fun e=>c7 e (fun e=> .inl (ie e)) fun e=> .inr (.inl (ie e))) fun e=> .inr (.inr (.inl (ie e)))) fun e=>af e fun e e4=>af e fun e e3=>af e fun e1 e2=> .inr (.inr (.inr ⟨pG e1,pG e2,jQ (cZ e3),cZ e4⟩)))
theorem Ds {t:Nat} (T:t<55):wI (t+1)=some true∨wI (t+1)=some false:=by
 have e:=gh AH t (nV T);cases h:wI (t+1) with
 |none=>rw [h] at e;exact nof e
 |some b=>cases b<;>simp
section
variable {n:Nat} {E C D H M N J P S Q U A:Rg} {Φ:zP} {x:List KR} {q ak B cn u5 t k s m:Nat} {d mb ab:DV} {L:zL}
variable (F:FS H.t x) (Y:x.length≤99) (i:dz a0 C U) (g:J.t.get q=some ⟨u5,.var (some (.aj 3 0))⟩) (o:q<J.n)
include F Y i g o
theorem l9 {σ:ah} {p:Nat}:fy PG σ .ne (.ai [I 1,I p]) (.ai [I 1,I p])=some false:=ne_self (dj fun d hd=>ek (f:=1) aD (by simp only [List.mem_cons,List.not_mem_nil,or_false] at hd;rcases hd with rfl|rfl<;>rfl))
theorem Mv {p:Nat} (T:t<55) (Z:t=0∧p=12∨t=3∧p=13∨t=19∧p=0∨8≤t∧t≤18∧p=t -7∧fq (t+1)= .ofNat 2∧ia (t+1)= .ai [I 2,I 2,.ai []]) (c:∀u ls,Φ (.f (.ret (.bool true))) [E,C,D,H,M,N,u,P,S,Q,U,A] ls):ao Φ (run PG (n+395) false 6 (.ss (bB 4::bB 5::bB 6::bB 7::bB 8::bB 9::bB 10::bB 11::[bB 12,bB 13])) [E,C,D,H,M,N,J,P,S,Q,U,A] [(68,.aj 6 q),(90,.aj 1 8),(24,I (t+1)),(12,.aj 1 (bT (t+1))),(4,I 0),(13,I p)]):=by
 refine az i fun my X O=>?_;have ln:=aI (x:=x);have qn:q≠J.n:=Jt o;have gq:∀{c2:Cell},(TC.aq J.n c2 J.t).get q=some ⟨u5,.var (some (.aj 3 0))⟩:=fun {c2}=>by rw [TC.ay,aS qn];exact g
 refine F.el fun v0 v1 v2 v3 v4 v5 v6 v7 h0 h1 h2 V h4 h5 h6 h7=>cX X O T fun u0 u1 u2 m0 m1 m2 w=>?_;have c:∀{u:Rg} ls,Φ (.f (.ret (.bool true))) [E,C,D,H,M,N,u,P,S,Q,U,A] ls:=fun {u} ls=>c u ls;have kl:∀{k:Nat},k<16→aL (eB x) k=some (.ai [I 1,I k]):=fun h=>aH.trans (D6 h);rcases Z with ⟨rfl,rfl⟩|⟨rfl,rfl⟩|⟨rfl,rfl⟩|⟨t1,t2,rfl,so,hm⟩
 ·refine IC (n:=n+335) w cg qn g h0 h1 h2 (aB (n8 ln Y)) (aE.1 (FH ln Y)) (aB aD) (kl aD)<|TM (n:=n+332) (ff (n:=n+329) (ak:=1) (l9 F Y i g o) rfl w (jJ (n:=n+237) ?_ c))
  rw [show ia (0+1)= .ai [] from cg];exact E7 F Y i gq
 ·refine IC (n:=n+335) w cg qn g h0 h1 h2 (aB (n8 ln Y)) (aE.1 (Pe ln Y)) (aB aD) (kl aD)<|TN (n:=n+332) (ff (n:=n+329) (ak:=4) (l9 F Y i g o) rfl w (jJ (n:=n+237) ?_ c))
  rw [show ia (3+1)= .ai [I 1,I 12] from cg];exact Uj F Y i gq
 ·rw [show fq (19+1)= .ofNat 2 from cg] at w
  refine ID (n:=n+335) w qn g h0 h1 h2 (aB (n8 ln Y)) (aE.1 (Pf ln Y)) (aB aD) (kl aD)<|Mw (n:=n+332) (My (n:=n+329) (l9 F Y i g o) (jJ (n:=n+237) (Uh F Y i gq) c))
 ·rw [so] at w
  refine ID (n:=n+335) w qn g h0 h1 h2 (aB (n8 ln Y)) (aE.1 (Pj t1 T ln t2 Y)) (aB (Pk t1 T t2)) (kl (Pn t1 T t2))<|TR (n:=n+332) (aE.2 (Pp t1 T t2)) (aE.2 (Pq t1 T t2)) (bH (bU (Pu t1 T t2))) (bH (bU (Pw t1 T t2))) (bH (bU (Jv t1 T t2))) ?_
  rw [show eF (Int.ofNat (t+1)) (Int.ofNat 8)= .ofNat (t -7) by rw [mj];show ((t+1:Nat):Int) -((8:Nat):Int)=((t -7:Nat):Int);exact Px t1 T t2];refine ff (n:=n+329) (l9 F Y i g o) (bH (bU (Jv t1 T t2))) w (jJ (n:=n+237) ?_ c);rw [hm];exact Ui F Y i gq (Py t1 T t2) (Pz t1 T t2)
end
section
variable {n:Nat} {E C D H M N J P S Q U A:Rg} {Φ:zP} {x:List KR} {t:Nat}
theorem Gz {σ:ah} (T:t<55) (h:wI (t+1)=some true) (Z:∀p,(t=0∧p=12∨t=3∧p=13∨t=19∧p=0∨8≤t∧t≤18∧p=t -7∧fq (t+1)= .ofNat 2∧ia (t+1)= .ai [I 2,I 2,.ai []])→Φ (.v (I p)) σ []):ao Φ (run PG (n+60) false 6 (.call 634 [.aj 3 0,I (t+1)]) σ []):=by
 refine Eh T h fun u e=>?_;rcases e with rfl|rfl|rfl|⟨t1,t2,so,hm⟩
 ·exact Rf (Z _ (.inl ⟨rfl,rfl⟩))
 ·exact Rh (Z _ (.inr (.inl ⟨rfl,rfl⟩)))
 ·exact Ku (Z _ (.inr (.inr (.inl ⟨rfl,rfl⟩))))
 ·have Z:=Z _ (.inr (.inr (.inr ⟨t1,t2,rfl,so,hm⟩)))
  have t3:t=8∨t=9∨t=10∨t=11∨t=12∨t=13∨t=14∨t=15∨t=16∨t=17∨t=18:=PA t1 T t2;clear so hm t1 t2;rcases t3 with rfl|rfl|rfl|rfl|rfl|rfl|rfl|rfl|rfl|rfl|rfl
  ·exact Ri Z
  ·exact Kg Z
  ·exact Kh Z
  ·exact Kl Z
  ·exact Km Z
  ·exact Kn Z
  ·exact Ko Z
  ·exact Kp Z
  ·exact Kq Z
  ·exact Kr Z
  ·exact Ks Z
theorem F7:((List.range 55).all fun t=>match b8 a0.ns (.ai [I 0,.str (d8 (t+1)),I (fN (t+1) 5).length]) (I 0) with
  |some d=>iA 8 d (I (t+1))
  |none=>false)=true:=by kernel_rfl
theorem JT (T:t<55):b8 a0.ns (.ai [I 0,.str (d8 (t+1)),I (fN (t+1) 5).length]) (I 0)=some (I (t+1)):=by
 have e:=gh F7 t (nV T);cases h:b8 a0.ns (.ai [I 0,.str (d8 (t+1)),I (fN (t+1) 5).length]) (I 0) with
 |none=>rw [h] at e;exact nof e
 |some d=>rw [h] at e;rw [cZ e]
set_option backward.match.sparseCases false in
noncomputable def J7 (r:Rs) (σ:ah) (_:Lc):RR:=match r with
 | .f fl=>match fl with
  | .next=> .ok (.v .none) σ []
  | .ret d=> .ok (.v d) σ []
 | .x=> .ok .y σ []
 | .z d=> .ok (.z d) σ []
 |_=> .no
set_option backward.match.sparseCases false in
theorem zq (F:FS H.t x) (Y:x.length≤90) (i:dz a0 C U) (T:t<55) (c:∀r3 u x',FS r3.t x'→x'.length≤x.length+4→Φ (.v (.bool true)) [E,C,D,r3,M,N,u,P,S,Q,U,A] []):ao Φ (run PG (n+400) false 6 (.call 754 [.aj 3 0,.aj 1 8,I (t+1)]) [E,C,D,H,M,N,J,P,S,Q,U,A] []):=by
 refine az i fun my X O=>cX X O T fun u0 u1 u2 m0 m1 m2 w=>aA (eK (j:=6) X T aD) fun up mp=>aA F.nm fun v8 h8=>aA F.as fun v9 h9=>?_;have c3:=vg T;refine F.el fun v0 v1 v2 v3 v4 v5 v6 v7 h0 h1 h2 h3 h4 h5 h6 h7=>pe (r':=yU (run PG (n+399) false 6 (.ss (bB 0::bB 1::bB 2::bB 3::bB 4::bB 5::bB 6::bB 7::bB 8::bB 9::bB 10::bB 11::[bB 12,bB 13])) [E,C,D,H,M,N,⟨J.n+1,.aq J.n ⟨0,.var (some (.aj 3 0))⟩ J.t⟩,P,S,Q,U,A] [(68,.aj 6 J.n),(90,.aj 1 8),(24,I (t+1))]) []) cg ?_;refine ao.aT (K:=J7) ?_;have g:(TC.aq J.n ⟨0,.var (some (.aj 3 0))⟩ J.t).get J.n=some ⟨0,.var (some (.aj 3 0))⟩:=by rw [TC.ay,bk rfl]
 refine TH (n:=n+339) m0 m1 (aB (cM T)) m2 w mp (aB (by show (fN (t+1) 5).length≤5000;exact FI c3)) g h0 h9 h8 (JT T) (d_ (r8 T)) (by rw [nY];rfl) ?_;show ao _ (run PG (n+396) false 6 (.ss (bB 3::_)) _ [(68,.aj 6 J.n),(90,.aj 1 8),(24,I (t+1)),(12,.aj 1 (bT (t+1))),(4,I (fN (t+1) 5).length)]);rw [show bB 3= .b7 13 (.call none .av 634 [.lc 68,.l 24]) from cg];refine k8 (n:=n+395) (gO (n:=n+394) (R:=6) (fun W W W=>rfl) (TG (n:=n+364) g ⟨_,rfl,?_⟩));rcases Ds T with tp|tp
 ·refine Gz (n:=n+334) T tp fun p Z=>⟨_,rfl,?_⟩
  refine Eh T tp fun cn W=>?_;rw [cn];exact Mv (J:=⟨J.n+1,_⟩) F (Ju Y) i g (Nat.lt_succ_self _) T Z fun u ls=>c _ _ x F PX
 ·have K:∀s,(s=2∧ck (fq (t+1)) (.ofNat 2)=false∨s=3∧fq (t+1)= .ofNat 2)→HU (fun k σ=>ao (fun r σ ls=>ao Φ (J7 r σ ls)) (run PG (n+395) false 6 (.ss (bB 4::bB 5::bB 6::bB 7::bB 8::bB 9::bB 10::bB 11::[bB 12,bB 13])) σ [(68,.aj 6 J.n),(90,.aj 1 8),(24,I (t+1)),(12,.aj 1 (bT (t+1))),(4,I (fN (t+1) 5).length),(13,I k)])) E C D M N ⟨J.n+1,.aq J.n ⟨0,.var (some (.aj 3 0))⟩ J.t⟩ P S Q U A x t s:=fun s hs r3 u x' k ks F' hl hk hc V G=>by rw [←hc];exact Mu (J:=u) F' (PY hl Y) i ((G.2 J.n (Nat.lt_succ_self _)).trans g) (tM (Nat.lt_succ_self _) G.1) T tp hs hk hc V fun u ls=>c _ _ x' F' hl
  exact CV (n:=n+194) F Y T tp (fun k σ h=>⟨_,rfl,h⟩) (fun i2=>K 2 (.inl ⟨rfl,i2⟩)) fun so=>K 3 (.inr ⟨rfl,so⟩)
end
end
noncomputable def mR (E:Rg):RR:=rn PG 500 true 1 (.call 704 []) [E,O0,O0,O0,O0,O0,O0,O0,O0,O0,O0,O0] []
noncomputable def Lz (E A:Rg):RR:=rn PG 500 true 2 (.call 501 []) [E,A,O0,O0,O0,O0,O0,O0,O0,O0,O0,O0] []
noncomputable def LA (E A B Q:Rg):RR:=rn PG 500 true 3 (.call 501 []) [E,A,B,O0,O0,O0,O0,O0,O0,Q,O0,O0] []
noncomputable def bR (E A B C Q:Rg):RR:=rn PG 500 true 4 (.call 721 [.aj 3 0,.aj 1 8]) [E,A,B,C,O0,O0,O0,O0,O0,Q,O0,O0] []
noncomputable def eR (E A B C D Q:Rg):RR:=rn PG 500 true 5 (.call 716 [.aj 3 0,.aj 1 8]) [E,A,B,C,D,O0,O0,O0,O0,Q,O0,O0] []
noncomputable def J8 (x:Ix):CB:=match x.1 with
 |0=>match (if x.2=0 then some (stC 0 3).b else if x.2=1 then some (tK 3 0).b else if x.2=2 then some (.list dO) else if x.2=3 then some (.dict .r (iI 0 dO)) else if x.2=4 then some (.list (List.replicate 22 (I 1))) else if x.2=5 then some (.list (List.replicate 22 (I 1))) else if x.2=6 then some (.list (List.replicate 22 (I 0))) else if x.2=13 then some (.list HJ) else if x.2=10 then some (.dict .n a0.ns) else if x.2=11 then some (.list [Lj]) else none:Option CB) with
  |some b=>b
  |none=> .list []
 |t+1=>match x.2 with
  |0=>(lK 0 3 (8+10*(t+1)) (t+1) (d8 (t+1)) (fq (t+1)) (m7 (t+1)) (gZ (t+1)) (.ofNat 0) (.ofNat 0)).b
  |_=> .list (fN (t+1) 5)
noncomputable def Rd:List Ix:=[(0,0),(0,1),(0,2),(0,3),(0,4),(0,5),(0,6),(0,13),(0,10),(0,11)]++(List.range 55).flatMap fun t=>[(t+1,0),(t+1,2)]
noncomputable def SM:List Ix:=[0,1,2,3,4,5,6,10,11,13,15,17].map (fun j=>(0,j))++AM
noncomputable def SD:List Ix:=[1,2,3,5,7,8].map (fun j=>(0,j))++AM
noncomputable def Q2:List Cell→Nat→TC→TC
 |[],_,t=>t
 |c::l,i,t=>TC.put (i+1) t i c fun t=>kZ (i+1) fun j=>Q2 l j t
noncomputable def lC (v:Nat) (l:List DV):Cell:=⟨v,.list l⟩
noncomputable def Rb (r t:Nat):List Cell:=[⟨19,.inst 420 (mw r (8+10*t) t (d8 t) (fq t) (m7 t) (gZ t) (.ofNat 0) (.ofNat 0))⟩,lC 0 [],lC (fN t 5).length (l0 t 2),lC ((fN t 5).length+(fN t 5).length) (l0 t 3),lC ((fN t 5).length+(match Nat.beq t 8 with|true=>1|false=>0)) (l0 t 4),lC 0 [],lC 0 [],lC 0 [],lC 0 [],lC 0 []]
noncomputable def nT (r:Nat):Rg:=⟨568,Q2 ([⟨10,(stC 0 r).b⟩,⟨5,(tK r 0).b⟩,lC 22 dO,⟨22,.dict .r (iI 0 dO)⟩,lC 22 (List.replicate 22 (I 1)),lC 22 (List.replicate 22 (I 1)),lC 22 (List.replicate 22 (I 0)),lC 0 [.none],lC 0 [.none],lC 0 [.none],⟨55,.dict .n a0.ns⟩,lC 1 [Lj],lC 0 [.none],lC 55 ((List.range 64).map fun t=>if 1≤t∧t≤55 then .aj r (8+10*t) else .none),lC 0 [.none],lC 0 (List.replicate 64 .none),lC 0 [.none],lC 0 (List.replicate 256 .none)]++(List.range 55).flatMap fun t=>Rb r (t+1)) 0 .nil⟩
noncomputable def LB (c:Nat):List Nat→List Nat→List (List Nat)
 |a,[]=>[a]
 |a,x::l=>match Nat.beq x c with
  |true=>a::LB c [] l
  |false=>LB c (a++[x]) l
noncomputable def Rj (l:List (List Nat)):List DV:=l.map fun l=> .str ⟨⟨l⟩⟩
noncomputable def hd1 (l:List (List Nat)):List (List Nat):=match aL l 1 with
 |some x=>LB 58 [] x
 |none=>[]
noncomputable def Ra (t:Nat) (w:List (List Nat)):List Cell:=[lC 0 (Rj w),lC 0 (Rj (hd1 w)),lC 0 (Rj (w.drop 2)),⟨11,.dict .s (xV 1 (bT t) t (d8 t) (fq t) (m7 t) (ia t) (.ofNat 0) (.ofNat 0))⟩,lC 0 [],lC 0 [],lC 0 [],lC 0 [],lC 0 [],lC 0 [],lC (fN t 5).length (l0 t 2),lC (fN t 5).length (l0 t 3),lC (fN t 5).length (l0 t 4)]++List.replicate (fN t 5).length ⟨0,.dict .s [(sS "+",I 1),(sS "-",I 2)]⟩
noncomputable def Ej:Nat→List (Nat×Nat)→List Cell
 |_,[]=>[lC 0 [.none],lC 0 (List.replicate 8 .none)]
 |t,p::l=>Ra t (LB 32 [] (qd p.1 p.2))++Ej (t+1) l
noncomputable def M1:Rg:=⟨742,Q2 ([⟨0,.dict .s [(sS "class",.ai [I 1,I 0,sS "Object"]),(sS "abstract",.ai [I 1,I 1,sS "Object"]),(sS "sealed",.ai [I 1,I 2,sS "Object"]),(sS "static",.ai [I 1,I 3,sS "Object"]),(sS "struct",.ai [I 2,I 2,sS "ValueType"]),(sS "interface",.ai [I 3,I 1,sS ""]),(sS "delegate",.ai [I 4,I 2,sS "Delegate"])]⟩,lC 56 Eb,⟨55,.dict .n a0.ns⟩,lC 0 [Lj],lC 0 [I 0],lC 0 (List.replicate 64 (I 0)),lC 0 [I 0],lC 0 (List.replicate 256 (I 0)),⟨0,(xM 0).b⟩]++Ej 1 JE) 0 .nil⟩
noncomputable def Q7 (a b:Option Cell):Bool:=match a with
 |none=>match b with
  |none=>true
  |some _=>false
 |some x=>match b with
  |some y=>Nat.beq x.cz y.cz&&LZ x.b y.b
  |none=>false
theorem Gg {a b:Option Cell} (e:Q7 a b=true):a=b:=by
 cases a with
 |none=>cases b with
  |none=>rfl
  |some _=>exact nof e
 |some x=>cases b with
  |none=>exact nof e
  |some y=>refine af (a:=Nat.beq x.cz y.cz) e fun G F=>?_;cases x;cases y;exact congrArg some (congr (congrArg Cell.mk (ie G)) (yV F))
noncomputable def KU:TC→TC→Bool
 | .nil,t=>match t with
  | .nil=>true
  |_=>false
 | .node v l r,t=>match t with
  | .node v' H r'=>Q7 v v'&&(KU l H&&KU r r')
  |_=>false
 | .aq _ _ _,_=>false
theorem uO:∀{a b:TC},KU a b=true→a=b
 | .nil,b,e=>by cases b with|nil=>rfl|_=>exact nof e
 | .node v l r,b,e=>by
  cases b with
  |node v' H r'=>exact af (a:=Q7 v v') e fun G F=>af (a:=KU l H) F fun F L=>by rw [Gg G,uO F,uO L]
  |_=>exact nof e
 | .aq _ _ _,_,e=>nof e
noncomputable def Ly (a b:Rg):Bool:=Nat.beq a.n b.n&&KU a.t b.t
theorem uG {a b:Rg} (e:Ly a b=true):a=b:=by refine af (a:=Nat.beq a.n b.n) e fun G F=>?_;cases a;cases b;exact congr (congrArg Rg.mk (ie G)) (uO F)
theorem RG (E:Rg):mR E= .ok (.v (.aj 1 8)) [E,BH 1 (mR E),O0,O0,O0,O0,O0,O0,O0,O0,O0,O0] []∧Ly (BH 1 (mR E)) M1=true:=⟨by kernel_rfl,by kernel_rfl⟩
theorem B5 (E:Rg):mR E= .ok (.v (.aj 1 8)) [E,M1,O0,O0,O0,O0,O0,O0,O0,O0,O0,O0] []:=uG (RG E).2▸(RG E).1
theorem Im:tT lP (nS a0 Eb) M1.t SD=true:=by kernel_rfl
theorem RH (E A:Rg):Lz E A= .ok (.v (.aj 2 0)) [E,A,BH 2 (Lz E A),O0,O0,O0,O0,O0,O0,O0,O0,O0] []∧Ly (BH 2 (Lz E A)) (nT 2)=true:=⟨by kernel_rfl,by kernel_rfl⟩
theorem B6 (E A:Rg):Lz E A= .ok (.v (.aj 2 0)) [E,A,nT 2,O0,O0,O0,O0,O0,O0,O0,O0,O0] []:=uG (RH E A).2▸(RH E A).1
theorem Mc:tT jg (lA a0 e0) (nT 2).t SM=true:=by kernel_rfl
theorem RI (E A B Q:Rg):LA E A B Q= .ok (.v (.aj 3 0)) [E,A,B,BH 3 (LA E A B Q),O0,O0,O0,O0,O0,Q,O0,O0] []∧Ly (BH 3 (LA E A B Q)) (nT 3)=true:=⟨by kernel_rfl,by kernel_rfl⟩
theorem u_ (E A B Q:Rg):LA E A B Q= .ok (.v (.aj 3 0)) [E,A,B,nT 3,O0,O0,O0,O0,O0,Q,O0,O0] []:=uG (RI E A B Q).2▸(RI E A B Q).1
theorem Me:tT jg J8 (nT 3).t Rd=true:=by kernel_rfl
theorem Th (K B Q:Rg):bR K M1 B (nT 3) Q= .ok (.v (.bool true)) [K,M1,B,nT 3,BH 4 (bR K M1 B (nT 3) Q),O0,O0,O0,O0,Q,O0,O0] []:=by kernel_rfl
theorem Ti (J B D Q:Rg):eR J M1 B (nT 3) D Q= .ok (.v (.bool true)) [J,M1,B,nT 3,D,BH 5 (eR J M1 B (nT 3) D Q),O0,O0,O0,Q,O0,O0] []:=by kernel_rfl
section
variable {E:RA} {f:Addr} {as:List ME} {rr k v:Nat}
section
variable {C Ψ:zP} {n av x:Nat} {σ:ah} {ls l0:Lc} {e c a b:ME} {l:List MS} {z:Bool}
set_option backward.match.sparseCases false in
theorem uo {f:Nat} (p:ao (fun r A Z=>∃d rr k t v o,r= .v d∧aF ls x=some (.aj rr k)∧ja A rr=some t∧t.get k=some ⟨v,.var o⟩∧ao C (setC false A rr k v (.var (some d)) fun σ=>run PG n false av (.ss l) σ ls)) (run PG n false av (.e e) σ ls)):ao C (run PG (n+1) false av (.ss (.kc x e::l)) σ ls):=by refine ao.aT (K:=fun r σ Z=>match r with| .v d=>bo (aF ls x) fun y=>(match y with| .aj r k=>dU false σ r k fun c=>(match c.b with| .var _=>setC false σ r k c.cz (.var (some d)) fun σ=>run PG n false av (.ss l) σ ls|_=> .no)|_=> .no)|_=> .no) (p.mono fun r A D h=>?_);obtain ⟨d,rr,k,t,v,o,rfl,h1,O,N,q⟩:=h;show ao C (bo (aF ls x) fun y=>(match y with| .aj r k=>dU false A r k fun c=>(match c.b with| .var _=>setC false A r k c.cz (.var (some d)) fun σ=>run PG n false av (.ss l) σ ls|_=> .no)|_=> .no));rw [h1];show ao C (.oc (ja A rr) k fun c=>(match c.b with| .var _=>setC false A rr k c.cz (.var (some d)) fun σ=>run PG n false av (.ss l) σ ls|_=> .no));rw [O];exact eN N q
set_option backward.match.sparseCases false in
theorem iQ (hn:500≤n) (p:ao (fun r A Z=>∃ds R rr,r= .vs ds∧(∀k,ao C (k R A)→ao C (yt false av E A ls k))∧rn PG 500 true R (.call f ds) A []=rr∧ao (fun r B Z=>match r with| .v d=>C (.v d) B ls| .y=>C .y B []|_=>False) rr) (run PG n false av (.es as) σ ls)):ao C (run PG (n+1) false av (.e (.call (some true) E f as)) σ ls):=by
 rw [←DP hn] at p;refine ao.aT (K:=fun r σ Z=>match r with| .vs ds=>yt false av E σ ls fun R σ=>DO (rn PG (cf n) true R (.call f ds) σ []) fun d σ=> .ok (.v d) σ ls|_=> .no) (p.mono fun r A D h=>?_);refine lB h fun ds R rr Y hr V q=>?_;subst Y;subst V;exact hr _ (ao.aT (q.mono fun r B F h=>by
  cases r with
  |v d=>exact h
  |y=>exact h
  |_=>exact h.elim))
set_option backward.match.sparseCases false in
theorem DZ (p:ao (fun r A Z=>∃q,r= .b q∧ao C (run PG n false av (.e (match q with|true=>a|false=>b)) A ls)) (run PG n false av (.b c) σ ls)):ao C (run PG (n+1) false av (.e (.ite c a b)) σ ls):=by refine ao.aT (K:=fun r σ Z=>match r with| .b q=>(match q with|true=>run PG n false av (.e a) σ ls|false=>run PG n false av (.e b) σ ls)|_=> .no) (p.mono fun r A D h=>?_);obtain ⟨q,rfl,h⟩:=h;cases q<;>exact h
set_option backward.match.sparseCases false in
theorem zI {bb:List MS} (p:ao (fun r A Z=>r= .b false∧ao C (run PG (n+1) false av (.ss l) A ls)) (run PG (n+1) false av (.b c) σ ls)):ao C (run PG (n+2) false av (.ss (.iff c bb []::l)) σ ls):=by refine ao.aT (K:=fun r σ Z=>match r with| .b q=>(match q with|true=>bf (run PG (n+1) false av (.ss bb) σ ls) fun σ ls=>run PG (n+1) false av (.ss l) σ ls|false=>bf (run PG (n+1) false av (.ss []) σ ls) fun σ ls=>run PG (n+1) false av (.ss l) σ ls)|_=> .no) (p.mono fun r A D h=>?_);obtain ⟨rfl,h⟩:=h;exact h
set_option backward.match.sparseCases false in
theorem zE {es:List ME} (p:ao (fun r A Z=>r= .b false∧ao C (run PG n false av (.b (.or es)) A ls)) (run PG n false av (.b e) σ ls)):ao C (run PG (n+1) false av (.b (.or (e::es))) σ ls):=by refine ao.aT (K:=fun r σ Z=>match r with| .b q=>(match q with|true=> .ok (.b true) σ ls|false=>run PG n false av (.b (.or es)) σ ls)|_=> .no) (p.mono fun r A D h=>?_);obtain ⟨rfl,h⟩:=h;exact h
set_option backward.match.sparseCases false in
theorem uq (p:ao (fun r A Z=>r= .b true∧C (.b false) A ls) (run PG n false av (.b e) σ ls)):ao C (run PG (n+1) false av (.b (.not e)) σ ls):=by refine ao.aT (K:=fun r σ Z=>match r with| .b q=>(match q with|true=> .ok (.b false) σ ls|false=> .ok (.b true) σ ls)|_=> .no) (p.mono fun r A D h=>?_);obtain ⟨rfl,h⟩:=h;exact h
set_option backward.match.sparseCases false in
theorem qi {z:Option Bool} (p:ao (fun r A Z=>r= .v (.bool true)∧C (.b true) A ls) (run PG n false av (.e (.call z E f as)) σ ls)):ao C (run PG (n+1) false av (.b (.call z E f as)) σ ls):=by refine ao.aT (K:=fun r σ Z=>match r with| .v d=>iL false σ d (.ok (.b true) σ ls) (.ok (.b false) σ ls)|_=> .no) (p.mono fun r A D h=>?_);obtain ⟨rfl,h⟩:=h;exact h
set_option backward.match.sparseCases false in
theorem qj {xs:List Nat} {elt it:ME} {fv:List Nat} (hp:pick fv ls=some l0) (p:ao (fun r A u=>∃rr k v ds,r= .v (.aj rr k)∧aN A rr k=some ⟨v,.list ds⟩∧ds.length≤5000∧ao (fun r B u=>∃vs g,r= .vs vs∧vs.length≤5000∧B[av]?=some g∧ao C (run PG n false av (.ss l) (ez false B av (.list vs)) (aV ls x (.aj av g.n)))) (run PG n false av (.cp xs (some (rr,k,v)) ds elt none) A l0)) (run PG n false av (.e it) σ ls)):ao C (run PG (n+1) false av (.ss (.mJ x (.comp xs elt false it none fv)::l)) σ ls):=by
 show ao C (bo (pick fv ls) fun l0=>bv (run PG n false av (.e it) σ ls) fun d σ=>fD false σ d fun g ds=>g6 (run PG n false av (.cp xs g ds elt none) σ l0) fun vs σ=>gG false vs.length (cT false av σ (.list vs) fun d σ=>c_ ls x d fun ls=>run PG n false av (.ss l) σ ls));rw [hp];refine ao.aT (K:=fun r σ u=>match r with| .v d=>fD false σ d fun g ds=>g6 (run PG n false av (.cp xs g ds elt none) σ l0) fun vs σ=>gG false vs.length (cT false av σ (.list vs) fun d σ=>c_ ls x d fun ls=>run PG n false av (.ss l) σ ls)|_=> .no) (p.mono fun r A D h=>?_);refine Iw h fun rr k v ds X U M q=>?_;subst X;have e0:aN A rr k=match ja A rr with|some t=>t.get k|none=>none:=by unfold aN ja;cases aL A rr<;>rfl
 rw [U] at e0;cases G:ja A rr with
 |none=>rw [G] at e0;exact nomatch e0
 |some t=>rw [G] at e0;show ao C (.oc (ja A rr) k fun c=>match c.b with| .list D=>gG false D.length (g6 (run PG n false av (.cp xs (some (rr,k,c.cz)) D elt none) A l0) fun vs σ=>gG false vs.length (cT false av σ (.list vs) fun d σ=>c_ ls x d fun ls=>run PG n false av (.ss l) σ ls))|_=> .no);rw [G];refine eN e0.symm ?_;show ao C (.br (some (small ds.length)) (g6 (run PG n false av (.cp xs (some (rr,k,v)) ds elt none) A l0) fun vs σ=>gG false vs.length (cT false av σ (.list vs) fun d σ=>c_ ls x d fun ls=>run PG n false av (.ss l) σ ls)) .no);rw [aB M];refine ao.aT (K:=fun r σ u=>match r with| .vs vs=>gG false vs.length (cT false av σ (.list vs) fun d σ=>c_ ls x d fun ls=>run PG n false av (.ss l) σ ls)|_=> .no) (q.mono fun r B F h=>?_);refine tZ h fun vs g Z S hg f=>?_;subst Z;show ao C (.br (some (small vs.length)) (cT false av B (.list vs) fun d σ=>c_ ls x d fun ls=>run PG n false av (.ss l) σ ls) .no);rw [aB S,qz hg,cU];exact f
set_option backward.match.sparseCases false in
theorem DY {aa bb:List MS} (p:ao (fun r A Z=>∃q,r= .b q∧ao (fun r B L=>r= .f .next∧ao C (run PG n false av (.ss l) B L)) (run PG n false av (.ss (match q with|true=>aa|false=>bb)) A ls)) (run PG n false av (.b c) σ ls)):ao C (run PG (n+1) false av (.ss (.iff c aa bb::l)) σ ls):=by refine ao.aT (K:=fun r σ Z=>match r with| .b q=>(match q with|true=>bf (run PG n false av (.ss aa) σ ls) fun σ ls=>run PG n false av (.ss l) σ ls|false=>bf (run PG n false av (.ss bb) σ ls) fun σ ls=>run PG n false av (.ss l) σ ls)|_=> .no) (p.mono fun r A D h=>?_);obtain ⟨q,rfl,h⟩:=h;cases q<;>exact ao.aT (h.mono fun r σ ls h=>by obtain ⟨rfl,h⟩:=h;exact h)
set_option backward.match.sparseCases false in
theorem dm {es:List ME} (p:ao (fun r A Z=>∃d,r= .v d∧ao (fun r B Z=>∃ds,r= .vs ds∧C (.vs (d::ds)) B ls) (run PG n false av (.es es) A ls)) (run PG n false av (.e e) σ ls)):ao C (run PG (n+1) false av (.es (e::es)) σ ls):=by refine ao.aT (K:=fun r σ Z=>match r with| .v d=>g6 (run PG n false av (.es es) σ ls) fun ds σ=> .ok (.vs (d::ds)) σ ls|_=> .no) (p.mono fun r A D h=>?_);obtain ⟨d,rfl,h⟩:=h;exact ao.aT (h.mono fun r σ ls h=>by obtain ⟨ds,rfl,h⟩:=h;exact h)
theorem tH {d:DV} (h:aF ls x=some d) (p:C (.v d) σ ls):ao C (run PG (n+1) false av (.e (.l x)) σ ls):=by show ao C (bo (aF ls x) fun d=> .ok (.v d) σ ls);rw [h];exact p
set_option backward.match.sparseCases false in
theorem rX {d:DV} {t:TC} (h:aF ls x=some (.aj rr k)) (O:ja σ rr=some t) (N:t.get k=some ⟨v,.var (some d)⟩) (p:C (.v d) σ ls):ao C (run PG (n+1) false av (.e (.lc x)) σ ls):=by show ao C (bo (aF ls x) fun d=>match d with| .aj r k=>dU false σ r k fun c=>(match c.b with| .var o=>bo o fun d=> .ok (.v d) σ ls|_=> .no)|_=> .no);rw [h];show ao C (.oc (ja σ rr) k fun c=>(match c.b with| .var o=>bo o fun d=> .ok (.v d) σ ls|_=> .no));rw [O];exact eN N p
set_option backward.match.sparseCases false in
theorem Cj {t:TC} {l0:zL} (h:aF ls x=some (.aj rr k)) (O:ja σ rr=some t) (N:t.get k=some ⟨v,.list l0⟩) (M:l0.length≤5000) (p:C (.b (Nat.blt 0 l0.length)) σ ls):ao C (run PG (n+2) false av (.b (.l x)) σ ls):=by show ao C (bv (bo (aF ls x) fun d=> .ok (.v d) σ ls) fun d σ=>iL false σ d (.ok (.b true) σ ls) (.ok (.b false) σ ls));rw [h];show ao C (.oc (ja σ rr) k fun c=>match c.b with| .list l=> .br (some (small l.length)) (.br (some (Nat.blt 0 l.length)) (.ok (.b true) σ ls) (.ok (.b false) σ ls)) .no|_=> .no);rw [O];refine eN N ?_;show ao C (.br (some (small l0.length)) (.br (some (Nat.blt 0 l0.length)) (.ok (.b true) σ ls) (.ok (.b false) σ ls)) .no);rw [aB M];show ao C (.br (some (Nat.blt 0 l0.length)) (.ok (.b true) σ ls) (.ok (.b false) σ ls));revert p;cases Nat.blt 0 l0.length<;>exact fun p=>p
set_option backward.match.sparseCases false in
theorem oQ {op:yl} (p:ao (fun r A Z=>∃i,r= .v (.int i)∧ao (fun r B Z=>∃j q,r= .v (.int j)∧binI op i j=some q∧C (.v (.int q)) B ls) (run PG n false av (.e b) A ls)) (run PG n false av (.e a) σ ls)):ao C (run PG (n+1) false av (.e (.bin op a b)) σ ls):=by refine ao.aT (K:=fun r σ Z=>match r with| .v x=>bv (run PG n false av (.e b) σ ls) fun y σ=>BK false av σ op x y fun v σ=> .ok (.v v) σ ls|_=> .no) (p.mono fun r A D h=>?_);obtain ⟨i,rfl,h⟩:=h;refine ao.aT (K:=fun r σ Z=>match r with| .v y=>BK false av σ op (.int i) y fun v σ=> .ok (.v v) σ ls|_=> .no) (h.mono fun r B F h=>?_);obtain ⟨j,q,rfl,hb,h⟩:=h;show ao C (match binI op i j with|some i=> .ok (.v (.int i)) B ls|none=> .no);rw [hb];exact h
theorem zH {R:Nat} (T:∀σ ls k,yt false av E σ ls k=k R σ) (p:ao (fun r A Z=>∃ds,r= .vs ds∧ao (fun r B Z=>match r with| .v d=>C (.v d) B ls| .z d=>C (.v d) B ls|_=>False) (run PG n false R (.call f ds) A [])) (run PG n false av (.es as) σ ls)):ao C (run PG (n+1) false av (.e (.kU none E f as)) σ ls):=by
 revert p;show _→ao C (g6 (run PG n false av (.es as) σ ls) fun ds σ=>yt false av E σ ls fun R σ=>LY (run PG n false R (.call f ds) σ []) fun d σ=> .ok (.v d) σ ls);refine fun p=>ao.aT (p.mono fun r A D h=>?_);refine az h fun ds s q=>?_;subst s;show ao C (yt false av E A ls fun R σ=>LY (run PG n false R (.call f ds) σ []) fun d σ=> .ok (.v d) σ ls);rw [T];exact ao.aT (q.mono fun r B F h=>by
  cases r with
  |v d=>exact h
  |z d=>exact h
  |_=>exact h.elim)
noncomputable def mU (c:Nat×Nat×Nat):DV:= .ai [I c.1,I c.2.1,I c.2.2]
noncomputable def fR:Ab→List (Nat×Nat×Nat)→List DV
 |_,[]=>[]
 |a,c::cs=>(eO a c.1 c.2.1 c.2.2).2::fR (eO a c.1 c.2.1 c.2.2).1 cs
noncomputable def lJ:Ab→List (Nat×Nat×Nat)→Ab
 |a,[]=>a
 |a,c::cs=>lJ (eO a c.1 c.2.1 c.2.2).1 cs
theorem nC:∀{cs:List (Nat×Nat×Nat)} {a:Ab},(fR a cs).length=cs.length
 |[],_=>rfl
 |_::cs,_=>congrArg (·+1) nC
theorem DX {Iv:Nat→Ab→ah→Prop} {K tot:Nat} {elt:ME} {Iq:zL} {P:Nat×Nat×Nat→Prop} (turn:∀(i:Nat) (a:Ab) (c:Nat×Nat×Nat) (σ:ah) (m:Nat) (C:Rs→ah→Prop),i<tot→P c→Iv i a σ→(∀A,Iv (i+1) (eO a c.1 c.2.1 c.2.2).1 A→C (.v (eO a c.1 c.2.1 c.2.2).2) A)→ao (fun r σ Z=>C r σ) (run PG (m+K) false av (.e elt) σ (l0++[(100,I c.1),(24,I c.2.1),(26,I c.2.2)]))) (S:∀i a σ,Iv i a σ→aN σ rr k=some ⟨v,.list Iq⟩) (he:∀(a b c:DV) (ls:Lc),(ls=l0∨∃a b c,ls=l0++[(100,a),(24,b),(26,c)])→aV (aV (aV ls 100 a) 24 b) 26 c=l0++[(100,a),(24,b),(26,c)]) {cs:List (Nat×Nat×Nat)}:∀{i m:Nat} {a:Ab} {σ:ah} {ls:Lc},i+cs.length=tot→(∀c∈cs,P c)→Iv i a σ→(ls=l0∨∃a b c,ls=l0++[(100,a),(24,b),(26,c)])→ao (fun r A Z=>r= .vs (fR a cs)∧Iv (i+cs.length) (lJ a cs) A) (run PG (cs.length+K+m+1) false av (.cp [100,24,26] (some (rr,k,v)) (cs.map mU) elt none) σ ls):=by
 induction cs with
 |nil=>intro i m a σ ls Z Z H Z;exact ⟨rfl,H⟩
 |cons c cs ih=>
  intro i m a σ ls Q w H M;have Q:i+(cs.length+1)=tot:=Q;have e:=he (I c.1) (I c.2.1) (I c.2.2) ls M;show ao _ (c_ ls 100 (I c.1) fun ls=>c_ ls 24 (I c.2.1) fun ls=>c_ ls 26 (I c.2.2) fun ls=>bv (run PG (cs.length+1+K+m) false av (.e elt) σ ls) fun v' σ=>nN false σ (some (rr,k,v)) (g6 (run PG (cs.length+1+K+m) false av (.cp [100,24,26] (some (rr,k,v)) (cs.map mU) elt none) σ ls) fun vs σ=> .ok (.vs (v'::vs)) σ ls));rw [cU,cU,cU,e,show cs.length+1+K+m=(cs.length+1+m)+K by exact FD];refine ao.aT ((turn i a c σ _ (fun r A=>r= .v (eO a c.1 c.2.1 c.2.2).2∧Iv (i+1) (eO a c.1 c.2.1 c.2.2).1 A) (Q▸Nat.lt_add_of_pos_right (Nat.succ_pos _)) (w c (.head _)) H fun A h=>⟨rfl,h⟩).mono fun r A D q=>?_);refine aZ q fun J H'=>?_;subst J;have e0:aN A rr k=match ja A rr with|some t=>t.get k|none=>none:=by unfold aN ja;cases aL A rr<;>rfl
  rw [S _ _ _ H'] at e0;cases G:ja A rr with
  |none=>rw [G] at e0;exact nomatch e0
  |some tr=>rw [G] at e0;show ao _ (.oc (ja A rr) k fun c'=> .br (some (Nat.beq c'.cz v)) (g6 (run PG (cs.length+1+m+K) false av (.cp [100,24,26] (some (rr,k,v)) (cs.map mU) elt none) A (l0++[(100,I c.1),(24,I c.2.1),(26,I c.2.2)])) fun vs σ=> .ok (.vs ((eO a c.1 c.2.1 c.2.2).2::vs)) σ (l0++[(100,I c.1),(24,I c.2.1),(26,I c.2.2)])) .no);rw [G];refine eN e0.symm ?_;show ao _ (.br (some (Nat.beq v v)) (g6 (run PG (cs.length+1+m+K) false av (.cp [100,24,26] (some (rr,k,v)) (cs.map mU) elt none) A (l0++[(100,I c.1),(24,I c.2.1),(26,I c.2.2)])) fun vs σ=> .ok (.vs ((eO a c.1 c.2.1 c.2.2).2::vs)) σ (l0++[(100,I c.1),(24,I c.2.1),(26,I c.2.2)])) .no);rw [Nat.beq_refl,show cs.length+1+m+K=cs.length+K+m+1 by exact FE];refine ao.aT ((ih ((Nat.add_right_comm _ _ _).trans Q) (fun c U=>w c (.tail _ U)) H' (.inr ⟨_,_,_,rfl⟩)).mono fun r B D q=>?_);refine aZ q fun J u=>?_;subst J;exact ⟨rfl,(show i+1+cs.length=i+(cs.length+1) by exact QI)▸u⟩
end
end
section
section
variable {n m:Nat} {E B C D F G J H K Q U A:Rg} {ak op:Nat} {v0 v1 w u v4 q o v7 v8 v9 u0 u1 u2 z V y bX:Nat} {sc inl kl rows dp wt R:zL} {ki:zD} {x:Int} {l:List MS} {ls lt:Lc} {k i g:Nat} {M:zP}
theorem QO (N:Gl E 0 u0 sc) (O:Sm sc.length) (p:ao M (run PG (n+29) false 0 (.ss l) ((cl ⟨E.n+2,.aq (E.n+1) ⟨0,.dict .s [(.str ⟨⟨[105,110]⟩⟩,.aj 0 E.n),(.str ⟨⟨[97,116]⟩⟩,I 0)]⟩ (.aq E.n ⟨0,.list (List.take 32 sc)⟩ E.t)⟩ B C D F G J H K Q U A)) ([(105,.aj 0 0),(106,.aj 0 1),(90,.aj 0 2),(84,.aj 0 (E.n+1))]))):ao M (run PG (n+30) false 0 (.ss (cI 0::l)) (cl E B C D F G J H K Q U A) [(105,.aj 0 0),(106,.aj 0 1),(90,.aj 0 2)]):=dw [.c N,.s 1,.b O] p
theorem JD (p:M (.v (.aj 0 E.n)) (cl ⟨E.n+1,.aq E.n ⟨0,.list []⟩ E.t⟩ B C D F G J H K Q U A) (ls)):ao M (run PG (n+30) false 0 (.e (.lst [])) (cl E B C D F G J H K Q U A) ls):=dw [.s 1] p
section
variable (N:Ge E 4 ⟨V,.dict .s [(.str ⟨⟨[105,110]⟩⟩,.aj 0 3),(.str ⟨⟨[97,116]⟩⟩,I bX)]⟩) (O:Gl E 3 z inl) (L:Sm inl.length)
include N O L
theorem QU (p:M (.v (I ((inl.length/4)))) (cl E B C D F G J H K Q U A) ((105,.aj 0 0)::(106,.aj 0 1)::(90,.aj 0 2)::(84,.aj 0 4)::(107,.aj 0 5)::lt)):ao M (run PG (n+30) false 0 (.e (LC (cI 4))) (cl E B C D F G J H K Q U A) ((105,.aj 0 0)::(106,.aj 0 1)::(90,.aj 0 2)::(84,.aj 0 4)::(107,.aj 0 5)::lt)):=dw [.c N,.s 1,.c O,.b L] p
theorem WQ (P:So (!inl.length.blt (bX+1))) (T:Sm bX) (S:aL inl bX=some (.int x)) (p:M (.v (.int (x%Int.ofNat (m+1)))) ((cl ⟨E.n,.aq 4 ⟨V+1,.dict .s [(.str ⟨⟨[105,110]⟩⟩,.aj 0 3),(.str ⟨⟨[97,116]⟩⟩,I ((bX+1)))]⟩ E.t⟩ B C D F G J H K Q U A)) ([])):ao M (run PG (n+60) false 0 (.call 683 [.aj 0 4,I (m+1)]) (cl E B C D F G J H K Q U A) []):=dw [.c N,.s 1,.c N,.s 5,.k [.t] O,.b L,.b P,.s 4,.k [.t] O,.b T,.d S] p
theorem WR (P:Sn (!inl.length.blt (bX+1))) (p:M (.v (I 0)) ((cl ⟨E.n,.aq 4 ⟨V+1,.dict .s [(.str ⟨⟨[105,110]⟩⟩,.aj 0 3),(.str ⟨⟨[97,116]⟩⟩,I ((bX+1)))]⟩ E.t⟩ B C D F G J H K Q U A)) ([])):ao M (run PG (n+60) false 0 (.call 683 [.aj 0 4,I (m+1)]) (cl E B C D F G J H K Q U A) []):=dw [.c N,.s 1,.c N,.s 5,.k [.t] O,.b L,.b P] p
end
theorem QY (N:Gl E 5 y kl) (O:Ge E 4 ⟨V,.dict .s [(.str ⟨⟨[105,110]⟩⟩,.aj 0 3),(.str ⟨⟨[97,116]⟩⟩,I bX)]⟩) (L:Gl E 3 z inl) (P:Sm inl.length) (T:So (!inl.length.blt (bX+1))) (S:Sm bX) (Z:aL inl bX=some (.int x)) (a:Sm kl.length) (p:M (.f .next) ((cl ⟨E.n,ov 5 y (kl++[DV.ai [I op,I ak,.int (x%Int.ofNat 195)]]) (.aq 4 ⟨V+1,.dict .s [(.str ⟨⟨[105,110]⟩⟩,.aj 0 3),(.str ⟨⟨[97,116]⟩⟩,I ((bX+1)))]⟩ E.t)⟩ B C D F G J H K Q U A)) ([(105,.aj 0 0),(106,.aj 0 1),(90,.aj 0 2),(84,.aj 0 4),(107,.aj 0 5),(26,I i),(100,I op),(24,I ak)])):ao M (run PG (n+60) false 0 (.ss [Di (i8 (cI 4)) 3]) (cl E B C D F G J H K Q U A) ((105,.aj 0 0)::(106,.aj 0 1)::(90,.aj 0 2)::(84,.aj 0 4)::(107,.aj 0 5)::[(26,I i),(100,I op),(24,I ak)])):=dw [.c N,.c O,.s 1,.c O,.s 5,.k [.t] L,.b P,.b T,.s 4,.k [.t] L,.b S,.d Z,.s 1,.k [.t] N,.b a] p
theorem QS (N:So (op.beq 1)) (O:Sm (ak%13)) (L:aL [I 8,I 35,I 36,I 37,I 39,I 41,I 45,I 46,I 47,I 48,I 53,I 54,I 55] (ak%13)=some (I g)) (p:ao M (run PG (n+59) false 0 (.ss l) (cl E B C D F G J H K Q U A) ([(105,.aj 0 0),(106,.aj 0 1),(90,.aj 0 2),(84,.aj 0 4),(107,.aj 0 5),(26,I i),(100,I op),(24,I g)]))):ao M (run PG (n+60) false 0 (.ss (Di (i8 (cI 4)) 2::l)) (cl E B C D F G J H K Q U A) ((105,.aj 0 0)::(106,.aj 0 1)::(90,.aj 0 2)::(84,.aj 0 4)::(107,.aj 0 5)::[(26,I i),(100,I op),(24,I ak)])):=dw [.b N,.s 1,.b O,.d L] p
theorem QT (N:Sn (op.beq 1)) (O:So (op.beq 2)) (L:Sm (ak%13)) (P:aL [I 8,I 35,I 36,I 37,I 39,I 41,I 45,I 46,I 47,I 48,I 53,I 54,I 55] (ak%13)=some (I g)) (p:ao M (run PG (n+59) false 0 (.ss l) (cl E B C D F G J H K Q U A) ([(105,.aj 0 0),(106,.aj 0 1),(90,.aj 0 2),(84,.aj 0 4),(107,.aj 0 5),(26,I i),(100,I op),(24,I g)]))):ao M (run PG (n+60) false 0 (.ss (Di (i8 (cI 4)) 2::l)) (cl E B C D F G J H K Q U A) ((105,.aj 0 0)::(106,.aj 0 1)::(90,.aj 0 2)::(84,.aj 0 4)::(107,.aj 0 5)::[(26,I i),(100,I op),(24,I ak)])):=dw [.b N,.b O,.s 1,.b L,.d P] p
theorem QV (N:Sn (op.beq 1)) (O:Sn (op.beq 2)) (p:ao M (run PG (n+59) false 0 (.ss l) (cl E B C D F G J H K Q U A) ([(105,.aj 0 0),(106,.aj 0 1),(90,.aj 0 2),(84,.aj 0 4),(107,.aj 0 5),(26,I i),(100,I op),(24,I ak)]))):ao M (run PG (n+60) false 0 (.ss (Di (i8 (cI 4)) 2::l)) (cl E B C D F G J H K Q U A) ((105,.aj 0 0)::(106,.aj 0 1)::(90,.aj 0 2)::(84,.aj 0 4)::(107,.aj 0 5)::[(26,I i),(100,I op),(24,I ak)])):=dw [.b N,.b O] p
section
variable (N:Ge E 1 ⟨u1,.var (some (.aj 2 0))⟩) (O:Ge C 0 (stC v0 2)) (L:Ge C 1 (tK 2 v1)) (P:Ge C 3 ⟨u,.dict .r ki⟩)
include N O L P
theorem QX (T:b8 ki (.ai [I 6,I 7]) (.int (.negSucc 0))=some (.int (.negSucc 0))) (S:Gl C 2 w rows) (Z:Sm rows.length) (a:Sm ki.length) (h8:Gl C 4 v4 dp) (h9:Sm dp.length) (Y:Gl C 5 q wt) (j:Sm wt.length) (X:Gl C 6 o R) (h:Sm R.length) (p:M (.f .next) ((cl E B ⟨C.n,ov 6 o (R++[I 1]) (ov 5 q (wt++[I 1]) (ov 4 v4 (dp++[I 1]) (.aq 3 ⟨u+1,.dict .r (aM ki (.ai [I 6,I 7]) (I (rows.length)))⟩ (ov 2 w (rows++[DV.ai [I 6,I 7]]) C.t))))⟩ D F G J H K Q U A)) ((105,.aj 0 0)::(106,.aj 0 1)::(90,.aj 0 2)::(84,.aj 0 4)::(107,.aj 0 5)::lt)):ao M (run PG (n+60) false 0 (.ss (i8 (cI 6))) (cl E B C D F G J H K Q U A) ((105,.aj 0 0)::(106,.aj 0 1)::(90,.aj 0 2)::(84,.aj 0 4)::(107,.aj 0 5)::lt)):=dw [.c N,.c O,.c L,.s 1,.c L,.c P,.c P,.d T,.s 56,.c L,.c S,.b Z,.c L,.c S,.c S,.b Z,.k [.t] L,.k [.t] P,.b a,.k [.t,.t] L,.k [.t,.t] h8,.k [.t,.t] h8,.b h9,.k [.t,.t,.t] L,.k [.t,.t,.t] Y,.k [.t,.t,.t] Y,.b j,.k [.t,.t,.t,.t] L,.k [.t,.t,.t,.t] X,.k [.t,.t,.t,.t] X,.b h] p
theorem QW (T:b8 ki (.ai [I 6,I 7]) (.int (.negSucc 0))=some (I k)) (p:M (.f .next) (cl E B C D F G J H K Q U A) ((105,.aj 0 0)::(106,.aj 0 1)::(90,.aj 0 2)::(84,.aj 0 4)::(107,.aj 0 5)::lt)):ao M (run PG (n+60) false 0 (.ss (i8 (cI 6))) (cl E B C D F G J H K Q U A) ((105,.aj 0 0)::(106,.aj 0 1)::(90,.aj 0 2)::(84,.aj 0 4)::(107,.aj 0 5)::lt)):=dw [.c N,.c O,.c L,.s 1,.c L,.c P,.c P,.d T,.s 1] p
end
end
end
section
variable {t:TC}
noncomputable abbrev wB (a:Nat):CB:= .dict .s [(.str ⟨⟨[105,110]⟩⟩,.aj 0 3),(.str ⟨⟨[97,116]⟩⟩,I a)]
structure LF (t:TC) (inl:zL) (bX:Nat) (one:Option DV) (cl:zL) (C:Option Cell):Prop where
 one:∃v,t.get 1=some ⟨v,.var one⟩
 md:∃v,t.get 2=some ⟨v,.var (some (.aj 1 8))⟩
 inl:∃v,t.get 3=some ⟨v,.list inl⟩
 w:∃v,t.get 4=some ⟨v,wB bX⟩
 cl:∃v,t.get 5=some ⟨v,.list cl⟩
 z:t.get 0=C
theorem LF.w' {inl cl:zL} {bX b v:Nat} {one:Option DV} {C:Option Cell} (L:LF t inl bX one cl C):LF (.aq 4 ⟨v,wB b⟩ t) inl b one cl C:=by obtain ⟨⟨a,F⟩,⟨c,B⟩,⟨d,N⟩,_,⟨f,o⟩,S⟩:=L;exact ⟨⟨a,by rw [TC.ay,aS aD];exact F⟩,⟨c,by rw [TC.ay,aS aD];exact B⟩,⟨d,by rw [TC.ay,aS aD];exact N⟩,⟨v,by rw [TC.ay,bk rfl]⟩,⟨f,by rw [TC.ay,aS aD];exact o⟩,by rw [TC.ay,aS aD];exact S⟩
theorem LF.Io {inl cl Io:zL} {bX v:Nat} {one:Option DV} {C:Option Cell} (L:LF t inl bX one cl C):LF (.aq 5 ⟨v,.list Io⟩ t) inl bX one Io C:=by obtain ⟨⟨a,F⟩,⟨c,B⟩,⟨d,N⟩,⟨e,O⟩,_,S⟩:=L;exact ⟨⟨a,by rw [TC.ay,aS aD];exact F⟩,⟨c,by rw [TC.ay,aS aD];exact B⟩,⟨d,by rw [TC.ay,aS aD];exact N⟩,⟨e,by rw [TC.ay,aS aD];exact O⟩,⟨v,by rw [TC.ay,bk rfl]⟩,by rw [TC.ay,aS aD];exact S⟩
theorem LF.up {inl cl:zL} {bX k:Nat} {c:Cell} {one:Option DV} {C:Option Cell} (hk:6≤k) (L:LF t inl bX one cl C):LF (.aq k c t) inl bX one cl C:=by obtain ⟨⟨a,F⟩,⟨b,B⟩,⟨d,N⟩,⟨e,O⟩,⟨f,o⟩,S⟩:=L;exact ⟨⟨a,by rw [TC.ay,aS (PF hk)];exact F⟩,⟨b,by rw [TC.ay,aS (PJ hk)];exact B⟩,⟨d,by rw [TC.ay,aS (PK hk)];exact N⟩,⟨e,by rw [TC.ay,aS (PL hk)];exact O⟩,⟨f,by rw [TC.ay,aS (PM hk)];exact o⟩,by rw [TC.ay,aS (PN hk)];exact S⟩
theorem vA {x:Int} {m:Nat} {R:Prop} (f:∀k,k≤m→x%Int.ofNat (m+1)= .ofNat k→R):R:=by have F:=Int.emod_nonneg x (b:=Int.ofNat (m+1)) (by simp only [Int.ofNat_eq_natCast];exact QF);have B:=Int.emod_lt_of_pos x (b:=Int.ofNat (m+1)) (by simp only [Int.ofNat_eq_natCast];exact PO);refine aA (Int.eq_ofNat_of_zero_le F) fun k hk=>?_;rw [hk] at B;exact f k (by simp only [Int.ofNat_eq_natCast] at B;exact PR B) hk
noncomputable abbrev kC (lt:Lc):Lc:=(105,.aj 0 0)::(106,.aj 0 1)::(90,.aj 0 2)::(84,.aj 0 4)::(107,.aj 0 5)::lt
section
variable {n m:Nat} {E D G M V Y J Z u Q U A:Rg} {P:zP} {inl cl:zL} {bX:Nat} {one:Option DV} {C:Option Cell}
theorem qX (L:LF E.t inl bX one cl C) (hi:∀(i:Nat) (d:DV),inl[i]?=some d→∃x,d= .int x) (K:inl.length≤32) (H:∀k v,k≤m→P (.v (I k)) [⟨E.n,.aq 4 ⟨v,wB (bX+1)⟩ E.t⟩,D,G,M,V,Y,J,Z,u,Q,U,A] []):ao P (run PG (n+60) false 0 (.call 683 [.aj 0 4,I (m+1)]) [E,D,G,M,V,Y,J,Z,u,Q,U,A] []):=by
 obtain ⟨_,_,⟨v3,N⟩,⟨v4,O⟩,_⟩:=L;by_cases h:bX<inl.length
 ·refine aA (hi bX _ (tD h)) fun x T=>WQ O N (aB (FJ K)) (aE.2 (PS h)) (aB (PT h K)) (x:=x) (by rw [aH,tD h,T]) ?_
  exact vA fun k hk e=>e▸H k _ hk
 ·exact WR O N (aB (FJ K)) (aE.1 (PU h)) (H 0 _ (Nat.zero_le _))
def PC (c:Nat×Nat×Nat):Prop:=c.1<12∧(∃t,t<55∧c.2.1=t+1)∧(c.1=1∨c.1=2→c.2.1∈i6)
theorem zu {k:Nat} {R:Prop} (h:k<13) (f:∀g,aL [DV.int (Int.ofNat 8),DV.int (Int.ofNat 35),DV.int (Int.ofNat 36),DV.int (Int.ofNat 37),DV.int (Int.ofNat 39),DV.int (Int.ofNat 41),DV.int (Int.ofNat 45),DV.int (Int.ofNat 46),DV.int (Int.ofNat 47),DV.int (Int.ofNat 48),DV.int (Int.ofNat 53),DV.int (Int.ofNat 54),DV.int (Int.ofNat 55)] k=some (I g)→g∈i6→R):R:=by
 have e:(i6.map I)[k]?=some (I (i6[k]'h)):=by rw [List.getElem?_map,tD h];rfl
 exact f _ (by rw [aH];exact e) (List.getElem_mem _)
theorem DU {g:Nat} (h:g∈i6):∃t,t<55∧g=t+1:=by simp only [i6,List.mem_cons,List.not_mem_nil,or_false] at h;exact ⟨g -1,by exact PV h,by exact PW h⟩
theorem xh {i:Nat} {d:DV} {lt:Lc} (L:LF E.t inl (3*i) one cl C) (hi:∀(i:Nat) (d:DV),inl[i]?=some d→∃x,d= .int x) (K:inl.length≤32) (hn:4*(i+1)≤inl.length) (hc:cl.length≤32) (X:lt=[(26,I i)]∨∃a b,lt=[(26,I i),(100,a),(24,b)])
  (H:∀c t,PC c→LF t inl (3*(i+1)) one (cl++[mU c]) C→P (.f .next) [⟨E.n,t⟩,D,G,M,V,Y,J,Z,u,Q,U,A] (kC [(26,I i),(100,I c.1),(24,I c.2.1)])):ao P (run PG (n+70) false 0 (.ss (i8 (cI 4))) [E,D,G,M,V,Y,J,Z,u,Q,U,A] (kC lt)):=by
 rw [show i8 (cI 4)=[.b7 100 (.call none .av 683 [.l 84,.c (I 12)]),.b7 24 (.bin .add (.c (I 1)) (.call none .av 683 [.l 84,.c (I 55)])),Di (i8 (cI 4)) 2,Di (i8 (cI 4)) 3] from cg];have es:∀{σ:ah} {ls:Lc} {k:Nat} {n:Nat} {Ψ:zP},aF ls 84=some (.aj 0 4)→Ψ (.vs [.aj 0 4,I k]) σ ls→ao Ψ (run PG (n+4) false 0 (.es [.l 84,.c (I k)]) σ ls):=fun h p=>dm (n:=_+3) (tH (n:=_+2) h ⟨_,rfl,dm (n:=_+2) (e:= .c _) (es:=[]) ⟨_,rfl,⟨_,rfl,⟨_,rfl,p⟩⟩⟩⟩);refine k8 (n:=n+69) (gO (n:=n+68) (R:=0) (fun O O O=>rfl) (es (n:=n+64) (k:=12) rfl ⟨_,rfl,?_⟩));refine qX (n:=n+8) (m:=11) L hi K fun op v ho=>⟨_,rfl,?_⟩
 have L1:=L.w' (b:=3*i+1) (v:=v);have r:aV (kC lt) 100 (I op)=kC [(26,I i),(100,I op)]∨∃b,aV (kC lt) 100 (I op)=kC [(26,I i),(100,I op),(24,b)]:=by
  rcases X with rfl|⟨a,b,rfl⟩
  ·exact .inl rfl
  ·exact .inr ⟨b,rfl⟩
 have q:aF (aV (kC lt) 100 (I op)) 84=some (.aj 0 4):=by rcases r with e|⟨b,e⟩<;>rw [e]<;>rfl
 refine k8 (n:=n+68) (oQ (n:=n+67) (a:= .c (I 1)) ⟨1,rfl,?_⟩);refine gO (n:=n+66) (R:=0) (fun O O O=>rfl) (es (n:=n+62) (k:=55) q ⟨_,rfl,?_⟩);refine qX (n:=n+6) (m:=54) L1 hi K fun t v' ht=>⟨_,_,rfl,rfl,⟨_,rfl,?_⟩⟩
 have y:=L1.w' (b:=3*i+2) (v:=v');have e2:aV (aV (kC lt) 100 (I op)) 24 (.int (1+Int.ofNat t))=kC [(26,I i),(100,I op),(24,I (1+t))]:=by rcases r with e|⟨b,e⟩<;>rw [e]<;>rfl
 rw [e2];have fin:∀g,(∃t,t<55∧g=t+1)→(op=1∨op=2→g∈i6)→ao P (run PG (n+67) false 0 (.ss [Di (i8 (cI 4)) 3]) [⟨E.n,.aq 4 ⟨v',wB (3*i+2)⟩ (.aq 4 ⟨v,wB (3*i+1)⟩ E.t)⟩,D,G,M,V,Y,J,Z,u,Q,U,A] (kC [(26,I i),(100,I op),(24,I g)])):=fun g hg j=>by have ⟨_,_,⟨w3,q3⟩,⟨w4,q4⟩,⟨w5,q5⟩,_⟩:=y;have B:3*i+2<inl.length:=tM Wu hn;refine aA (hi _ _ (tD B)) fun x T=>QY (n:=n+7) q5 q4 q3 (aB (fQ K aD)) (aE.2 (Nat.not_lt_of_le B)) (aB (fQ (Nat.le_of_lt B) (fQ K aD))) (x:=x) (by rw [aH,tD B,T]) (aB (fQ hc aD)) ?_;refine vA (x:=x) (m:=194) fun k hk e=>?_;rw [show x%Int.ofNat 195=Int.ofNat k from e];exact H (op,g,k) _ ⟨Nat.lt_succ_of_le ho,hg,j⟩ (by have:=(y.w' (b:=3*i+2+1) (v:=w4+1)).Io (v:=w5+1) (Io:=cl++[mU (op,g,k)]);rw [show 3*(i+1)=3*i+2+1 from rfl];exact this)
 by_cases F:op=1
 ·subst F
  exact zu (k:=(1+t)%13) Jx fun g hg hm=>QS (n:=n+8) rfl (aB Jy) hg (fin g (DU hm) fun O=>hm)
 ·by_cases B:op=2
  ·subst B
   exact zu (k:=(1+t)%13) Jx fun g hg hm=>QT (n:=n+8) rfl rfl (aB Jy) hg (fin g (DU hm) fun O=>hm)
  ·exact QV (n:=n+8) (bH (bU F)) (bH (bU B)) (fin _ ⟨t,by exact PZ ht,by exact P_⟩ fun h=>(h.elim F B).elim)
end
end
section
noncomputable abbrev Mb:ME:= .kU none (.bX 9) 728 [.lc 106,.lc 90,.l 100,.l 24,.l 26]
noncomputable abbrev Rx:ME:= .call none (.bX 10) 749 [.lc 90,.l 100,.l 24,.l 26]
section
variable {n m v:Nat} {E D G M V Y J Z u Q U A:Rg} {Φ:zP} {inl cl:zL} {bX:Nat} {cs:List (Nat×Nat×Nat)} {one:Option DV} {y:Option Cell}
theorem tR (L:LF E.t inl bX (some (.aj 2 0)) cl y) (d:E.t.get 5=some ⟨v,.list (cs.map mU)⟩) (HS:eY a0 G Q) (w:dz a0 D U) (B:dN 0 a0) (N:uV a0) (e:cs.length≤8) (f:∀c∈cs,PC c):ao (fun r σ W=>r= .vs (fR a0 cs)∧∃g h,σ=[E,D,g,M,V,Y,J,Z,u,h,U,A]∧eY (lJ a0 cs) g h∧dN cs.length (lJ a0 cs)∧uV (lJ a0 cs)) (run PG (cs.length+80+m+1) false 0 (.cp [100,24,26] (some (0,5,v)) (cs.map mU) Mb none) [E,D,G,M,V,Y,J,Z,u,Q,U,A] [(90,.aj 0 2),(106,.aj 0 1)]):=by
 obtain ⟨⟨w1,o⟩,⟨z,S⟩,_⟩:=L;have C:=DX (l0:=[(90,.aj 0 2),(106,.aj 0 1)]) (elt:=Mb) (av:=0) (K:=80) (tot:=cs.length) (P:=PC) (v:=v) (rr:=0) (k:=5) (Iq:=cs.map mU) (Iv:=fun i a σ=>∃g h,σ=[E,D,g,M,V,Y,J,Z,u,h,U,A]∧eY a g h∧dN i a∧uV a) (fun i a c σ m Ψ hi j H k=>by
  refine tZ H fun g h F s B N=>?_;subst F;obtain ⟨op,ak,x⟩:=c;obtain ⟨ho,⟨t,T,rfl⟩,hg⟩:=j;refine zH (n:=m+79) (R:=9) (fun W W W=>rfl)<|dm (n:=m+78) (rX (n:=m+77) rfl rfl o ⟨_,rfl,?_⟩)
  refine dm (n:=m+77) (rX (n:=m+76) rfl rfl S ⟨_,rfl,?_⟩);refine dm (n:=m+76) (tH (n:=m+75) rfl ⟨_,rfl,?_⟩);refine dm (n:=m+75) (tH (n:=m+74) rfl ⟨_,rfl,?_⟩);refine dm (n:=m+74) (tH (n:=m+73) rfl ⟨_,rfl,⟨_,rfl,⟨_,rfl,⟨_,rfl,⟨_,rfl,⟨_,rfl,⟨_,rfl,?_⟩⟩⟩⟩⟩⟩⟩);refine gc (n:=m+19) s ?_ B (Jw hi e) T ho hg fun q p I=>?_
  ·refine az w fun my X O=>cX X O T fun u0 u1 u2 m0 m1 m2 m3=>⟨_,_,_,_,_,_,_,_,_,_,m0,m1,m2,m3⟩
  ·have K:=k _ ⟨q,p,rfl,I,B.eO ho hg,N.eO B ho⟩
   exact ⟨K,K⟩) (fun i a σ H=>by refine dB H fun g h F W=>?_;subst F;exact d) (fun a b c ls h=>by rcases h with rfl|⟨_,_,_,rfl⟩<;>rfl) (cs:=cs) (i:=0) (m:=m) (a:=a0) (σ:=[E,D,G,M,V,Y,J,Z,u,Q,U,A]) (ls:=[(90,.aj 0 2),(106,.aj 0 1)]) CD f ⟨_,_,rfl,HS,B,N⟩ (.inl rfl)
 rw [Nat.zero_add] at C;exact C
theorem Bk (L:LF E.t inl bX one cl y) (d:E.t.get 5=some ⟨v,.list (cs.map mU)⟩) (w:dz a0 D U) (B:dN 0 a0) (e:cs.length≤8) (f:∀c∈cs,PC c):ao (fun r σ X=>r= .vs (fR a0 cs)∧∃g h,σ=[E,g,G,M,V,Y,J,Z,u,Q,h,A]∧dz (lJ a0 cs) g h) (run PG (cs.length+80+m+1) false 0 (.cp [100,24,26] (some (0,5,v)) (cs.map mU) Rx none) [E,D,G,M,V,Y,J,Z,u,Q,U,A] [(90,.aj 0 2)]):=by
 obtain ⟨_,⟨z,S⟩,_⟩:=L;have C:=DX (l0:=[(90,.aj 0 2)]) (elt:=Rx) (av:=0) (K:=80) (tot:=cs.length) (P:=PC) (v:=v) (rr:=0) (k:=5) (Iq:=cs.map mU) (Iv:=fun i a σ=>∃g h,σ=[E,g,G,M,V,Y,J,Z,u,Q,h,A]∧dz a g h∧dN i a) (fun i a c σ m Ψ hi j H k=>by
  refine tY H fun g h F s B=>?_;subst F;obtain ⟨op,ak,x⟩:=c;obtain ⟨ho,⟨t,T,rfl⟩,hg⟩:=j;refine gO (n:=m+79) (R:=10) (fun X X X=>rfl)<|dm (n:=m+78) (rX (n:=m+77) rfl rfl S ⟨_,rfl,?_⟩)
  refine dm (n:=m+77) (tH (n:=m+76) rfl ⟨_,rfl,?_⟩);refine dm (n:=m+76) (tH (n:=m+75) rfl ⟨_,rfl,?_⟩);refine dm (n:=m+75) (tH (n:=m+74) rfl ⟨_,rfl,⟨_,rfl,⟨_,rfl,⟨_,rfl,⟨_,rfl,⟨_,rfl,?_⟩⟩⟩⟩⟩⟩);exact gt (n:=m+19) s B (Jw hi e) T ho hg fun q p I=>k _ ⟨q,p,rfl,I,B.eO ho hg⟩) (fun i a σ H=>by refine dB H fun g h F X=>?_;subst F;exact d) (fun a b c ls h=>by rcases h with rfl|⟨_,_,_,rfl⟩<;>rfl) (cs:=cs) (i:=0) (m:=m) (a:=a0) (σ:=[E,D,G,M,V,Y,J,Z,u,Q,U,A]) (ls:=[(90,.aj 0 2)]) CD f ⟨_,_,rfl,w,B⟩ (.inl rfl)
 rw [Nat.zero_add] at C;exact C.mono fun r σ _ ⟨o,g,h,S,h3,_⟩=>⟨o,g,h,S,h3⟩
end
end
section
variable {h:Rg}
theorem Cf {t:Nat} (h:56≤t) (i:Nat):fld t i= .none:=by
 have e:aL Lk (t -1)=none:=by rw [aH];exact List.getElem?_eq_none (show Lk.length≤t -1 by have:Lk.length=55:=rfl;exact Qa h this)
 unfold fld;rw [e]
theorem Hq:((List.range 55).all fun t=>Nat.ble (fN (t+1) 5).length 3&&(Nat.ble (fN (t+1) 6).length 3&&((fN (t+1) 5).all (wj 4)&&(fN (t+1) 6).all (wj 4))))=true:=by kernel_rfl
theorem La (t:Nat):((fN t 5).length≤3∧∀d∈fN t 5,Pl d)∧(fN t 6).length≤3∧∀d∈fN t 6,Pl d:=by
 have K:∀s,s<55→((fN (s+1) 5).length≤3∧∀d∈fN (s+1) 5,Pl d)∧(fN (s+1) 6).length≤3∧∀d∈fN (s+1) 6,Pl d:=fun s hs=>af (gh Hq s (nV hs)) fun a b=>af b fun b c=>af c fun c d=>⟨⟨pG a,gh c⟩,pG b,gh d⟩
 cases t with
 |zero=>exact K 0 aD
 |succ s=>
  by_cases h:s<55
  ·exact K s h
  ·have e:∀i,fN (s+1) i=[]:=fun i=>by unfold fN;rw [Cf (Qc h)]
   rw [e,e];exact ⟨⟨Nat.zero_le _,fun d hd=>nomatch hd⟩,Nat.zero_le _,fun d hd=>nomatch hd⟩
theorem D7 (t j:Nat):(l0 t j).length≤10∧∀d∈l0 t j,Pl d:=by
 have K:=La t;unfold l0;cases Nat.beq j 2 with
 |true=>exact ⟨fQ K.1.1 aD,K.1.2⟩
 |false=>cases Nat.beq j 3 with
  |true=>exact ⟨fQ K.2.1 aD,K.2.2⟩
  |false=>cases Nat.beq j 4 with
   |true=>cases Nat.beq t 8 with
    |true=>exact ⟨by show 1≤10;decide,fun d hd=>nW hd▸rfl⟩
    |false=>exact ⟨by show (List.map _ _).length≤10;rw [List.length_map];exact fQ K.1.1 aD,fun d hd=>by refine az (List.mem_map.mp hd) fun Z Z L=>?_;subst L;rfl⟩
   |false=>exact ⟨Nat.zero_le _,fun d hd=>nomatch hd⟩
theorem E6:(i6.all fun t=>Nat.blt 0 (l0 t 3).length&&Nat.blt 0 (l0 t 4).length)=true:=by kernel_rfl
theorem H_:dN 0 a0 where
 l:=fun t j=>(D7 t j).1
 pl:=fun t j=>(D7 t j).2
 g3:=fun t H=>af (gh E6 t H) fun a b=>⟨fun e=>by rw [show l0 t 3=[] from e] at a;exact nof a,fun e=>by rw [show l0 t 4=[] from e] at b;exact nof b⟩
 fs:=⟨jd _,jd _⟩
 ms:=⟨jd _,jd _⟩
 cc:=fun t=> .inl rfl
 fin:=fun t=>⟨0,rfl⟩
 ns:=⟨fun p P=>by refine az (List.mem_map.mp P) fun t Z L=>?_;subst L;exact ⟨_,_,_,rfl⟩,jd _⟩
 as:=⟨jd _,jd _⟩
 ts:=jd _
theorem F8:(a0.ns.all fun p=>match cW a0.ns p.1 with
  |some d=>iA 8 d p.2&&wj 4 p.2
  |none=>false)=true:=by kernel_rfl
theorem Q5:uV a0 where
 ns:=fun p P=>by
  have e:=gh F8 p P;cases h:cW a0.ns p.1 with
  |none=>rw [h] at e;exact nof e
  |some d=>rw [h] at e;exact af e fun a b=>⟨by rw [cZ a],b⟩
 as:=fun d hd=>nW hd▸rfl
 ts:=fun p P=>nomatch P
section
variable {n m v:Nat} {E D G M V Y J Z u Q U A:Rg} {T:zP} {a:Ab} {lt:Lc}
theorem Gm (z:E.t.get 1=some ⟨v,.var (some (.aj 2 0))⟩) (HS:eY a G Q) (N:∀g,eY a g Q→T (.f .next) [E,D,g,M,V,Y,J,Z,u,Q,U,A] (kC lt)):ao T (run PG (n+60) false 0 (.ss (i8 (cI 6))) [E,D,G,M,V,Y,J,Z,u,Q,U,A] (kC lt)):=by
 refine az HS fun e X O=>EY O.rows fun x B hc hd hw ho=>?_;have hk:=O.ki;refine aA (cy (j:=0) X aD) fun v0 q0=>aA (cy (j:=1) X aD) fun v1 w=>aA (cy (j:=3) X aD) fun v3 R=>?_;rw [show spS a e 3= .dict .r e.ki from rfl,hk,B] at R;rcases hc with rfl|rfl
 ·refine aA (cy (j:=2) X aD) fun v2 q=>aA (cy (j:=4) X aD) fun v4 q4=>aA (cy (j:=5) X aD) fun v5 q5=>aA (cy (j:=6) X aD) fun v6 q6=>?_
  rw [show spS a e 2= .list e.rows from rfl,B] at q;refine QX (n:=n) z q0 w R cg q (aB aD) (aB aD) q4 (aB (by rw [hd];decide)) q5 (aB (by rw [hw];decide)) q6 (aB (by rw [ho];decide)) (N _ ?_);have hs:∀{e e':Ex} {j:Nat},(∀k,k≠j→spS a e' k=spS a e k)→∀k,k≠j→spS a e' k=spS a e k:=fun h=>h;refine ⟨{e with rows:=dO++[]++[.ai [I 6,I 7]],ki:=aM (iI 0 (dO++[])) (.ai [I 6,I 7]) (I (dO++[]).length),dp:=e.dp++[I 1],wt:=e.wt++[I 1],op:=e.op++[I 1]},?_,⟨⟨[.ai [I 6,I 7]],by show dO++[]++_=_;rw [List.append_nil],.inr rfl,?_,?_,?_⟩,?_,O.ty,O.fl,O.ml⟩⟩
  ·have X2:=c9 (j:=2) (v:=v2+1) (a':=a) (e':={e with rows:=dO++[]++[.ai [I 6,I 7]]}) X aD rfl rfl rfl (dK cg) rfl
   have X3:=c9 (j:=3) (v:=v3+1) (a':=a) (e':={e with rows:=dO++[]++[.ai [I 6,I 7]],ki:=aM (iI 0 (dO++[])) (.ai [I 6,I 7]) (I (dO++[]).length)}) X2 aD rfl rfl rfl (dK cg) rfl;have X4:=c9 (j:=4) (v:=v4+1) (a':=a) (e':={e with rows:=dO++[]++[.ai [I 6,I 7]],ki:=aM (iI 0 (dO++[])) (.ai [I 6,I 7]) (I (dO++[]).length),dp:=e.dp++[I 1]}) X3 aD rfl rfl rfl (dK cg) rfl;have X5:=c9 (j:=5) (v:=v5+1) (a':=a) (e':={e with rows:=dO++[]++[.ai [I 6,I 7]],ki:=aM (iI 0 (dO++[])) (.ai [I 6,I 7]) (I (dO++[]).length),dp:=e.dp++[I 1],wt:=e.wt++[I 1]}) X4 aD rfl rfl rfl (dK cg) rfl;exact c9 (j:=6) (v:=v6+1) (a':=a) (e':={e with rows:=dO++[]++[.ai [I 6,I 7]],ki:=aM (iI 0 (dO++[])) (.ai [I 6,I 7]) (I (dO++[]).length),dp:=e.dp++[I 1],wt:=e.wt++[I 1],op:=e.op++[I 1]}) X5 aD rfl rfl rfl (dK cg) rfl
  ·show (e.dp++[I 1]).length=_;rw [fO,hd];rfl
  ·show (e.wt++[I 1]).length=_;rw [fO,hw];rfl
  ·show (e.op++[I 1]).length=_;rw [fO,ho];rfl
  ·show aM (iI 0 (dO++[])) (.ai [I 6,I 7]) (I (dO++[]).length)=iI 0 (dO++[]++[.ai [I 6,I 7]]);kernel_rfl
 ·exact QW (n:=n) (k:=22) z q0 w R cg (N _ HS)
end
theorem Eg {C k n:Nat}:Own h C k (List.replicate n .none) (List.replicate n 0):=⟨by rw [List.length_replicate,List.length_replicate],fun i d o a b=> .inl ⟨(List.mem_replicate.mp (List.mem_of_getElem? a)).2,(List.mem_replicate.mp (List.mem_of_getElem? b)).2⟩⟩
theorem Mi:iW a0 e0 h:=⟨⟨[],(List.append_nil _).symm,.inl rfl,rfl,rfl,rfl⟩,rfl,⟨[],(List.append_nil _).symm,rfl,fun i d p a=>nomatch a⟩,Eg,Eg⟩
theorem I8 {g:Rg} (c:tT jg (lA a0 e0) g.t SM=true):eY a0 g h:=⟨e0,pV c fun x B=>by
 obtain ⟨t,j⟩:=x;cases t with
 |zero=>exact dS _ (List.mem_map.mpr ⟨j,B,rfl⟩)
 |succ t=>exact d9 _ (wA B.1 B.2),Mi⟩
theorem D4 {g:Rg} (c:tT lP (nS a0 Eb) g.t SD=true):dz a0 g h:=⟨Eb,pV c fun x B=>by
 obtain ⟨t,j⟩:=x;cases t with
 |zero=>exact dS _ (List.mem_map.mpr ⟨j,B,rfl⟩)
 |succ t=>exact d9 _ (wA B.1 B.2),⟨[],(List.append_nil _).symm,rfl,fun i d p a=>nomatch a⟩⟩
theorem TX {g:TC} (c:tT jg J8 g Rd=true):FS g []:=by have X:bZ (·∈Rd) jg J8 g:=pV c fun x B=>B;have F:∀j,j∈[0,1,2,3,4,5,6,13,10,11]→∃v,g.get j=some ⟨v,J8 (0,j)⟩:=fun j hj=>X (0,j) (dS _ (List.mem_map.mpr ⟨j,hj,rfl⟩));have tx:∀{t:Nat} {x:Ix},t<55→x∈[(t+1,0),(t+1,2)]→∃v,g.get (jg x)=some ⟨v,J8 x⟩:=fun H B=>X _ (d9 _ (List.mem_flatMap.mpr ⟨_,nV H,B⟩));have e1:eB []=dO:=List.append_nil _;have S:∀{l:zL} {f:KR→DV},l++List.map f []=l:=List.append_nil _;exact ⟨F 0 aD,F 1 aD,e1▸F 2 aD,e1▸F 3 aD,(show vt []=_ from S)▸F 4 aD,(show wQ []=_ from S)▸F 5 aD,(show tL []=_ from S)▸F 6 aD,F 13 aD,F 10 aD,F 11 aD,fun t H=>tx H (.head _),fun t H=>tx H (.tail _ (.head _)),fun y hy=>nomatch hy⟩
end
section
theorem G8 {a:Ab} {op ak i:Nat}:Pl (eO a op ak i).2:=by
 have put:∀{os:List Nat} {k lim j:Nat} {f:Ab→List Nat→Ab},Pl (xU a os k lim ak j f).2:=by
  intro os k lim j f;unfold xU;split
  ·rfl
  ·split
   ·rfl
   ·split
    ·rfl
    ·split<;>rfl
 match op with
 |0=>show Pl (match aL [I 7,I 13] (i%2) with|some d=>(a.bz ak 1 (once (a.l ak 1) d),I 0)|none=>(a,I 0)).2;split<;>rfl
 |1=>rfl
 |2=>rfl
 |3=>rfl
 |4=>rfl
 |5=>rfl
 |6=>rfl
 |7=>rfl
 |8=>rfl
 |9=>rfl
 |10=>exact put
 |_+11=>exact put
theorem wg:∀{cs:List (Nat×Nat×Nat)} {a:Ab},∀d∈fR a cs,Pl d
 |[],_,_,h=>nomatch h
 |c::cs,a,d,h=>(dP h).elim (fun e=>e▸G8) fun h=>wg d h
theorem zj {σ:ah} {r k v r' k' v':Nat} {l:zL} (Y:aN σ r k=some ⟨v,.list l⟩) (X:aN σ r' k'=some ⟨v',.list l⟩) (h:∀d∈l,Pl d):fy PG σ .eq (.aj r k) (.aj r' k')=some true:=by show (match uc σ (eqT σ 8) (.aj r k) (.aj r' k')||iD σ .s (fun a b=>eqT σ 8 a b||iD σ .n (eqT σ 8) a b) (.aj r k) (.aj r' k') with|true=>some true|false=>none)=some true;rw [lR Y X (dj fun d hd=>ek (f:=4) aD (h d hd)),Bool.true_or]
section
variable {B Ψ:zP} {n av x:Nat} {σ:ah} {ls l0:Lc} {e c a b U:ME} {l:List MS} {es:List ME}
set_option backward.match.sparseCases false in
theorem Fc (p:ao (fun r A u=>r= .v (.bool true)∧ao B (run PG n false av (.e (.and (U::es))) A ls)) (run PG n false av (.e e) σ ls)):ao B (run PG (n+1) false av (.e (.and (e::U::es))) σ ls):=by refine ao.aT (K:=fun r σ u=>match r with| .v d=>iL false σ d (run PG n false av (.e (.and (U::es))) σ ls) (.ok (.v d) σ ls)|_=> .no) (p.mono fun r A Z h=>?_);obtain ⟨rfl,h⟩:=h;exact h
set_option backward.match.sparseCases false in
theorem IW (p:ao (fun r A u=>∃q,r= .v (.bool q)∧ao B (match q with|true=> .ok (.v (.bool true)) A ls|false=>run PG n false av (.e (.or (U::es))) A ls)) (run PG n false av (.e e) σ ls)):ao B (run PG (n+1) false av (.e (.or (e::U::es))) σ ls):=by refine ao.aT (K:=fun r σ u=>match r with| .v d=>iL false σ d (.ok (.v d) σ ls) (run PG n false av (.e (.or (U::es))) σ ls)|_=> .no) (p.mono fun r A Z h=>?_);obtain ⟨q,rfl,h⟩:=h;cases q<;>exact h
set_option backward.match.sparseCases false in
theorem Fd (p:ao (fun r A u=>∃d,r= .v d∧ao (fun r O u=>∃d',r= .v d'∧fy PG O .eq d d'=some true∧B (.v (.bool true)) O ls) (run PG n false av (.e b) A ls)) (run PG n false av (.e a) σ ls)):ao B (run PG (n+1) false av (.e (.cmp .eq a b)) σ ls):=by refine ao.aT (K:=fun r σ u=>match r with| .v x=>bv (run PG n false av (.e b) σ ls) fun y σ=>pU false (fy PG σ .eq x y) (.ok (.v (.bool true)) σ ls) (.ok (.v (.bool false)) σ ls)|_=> .no) (p.mono fun r A Z h=>?_);obtain ⟨d,rfl,h⟩:=h;refine ao.aT (K:=fun r σ u=>match r with| .v y=>pU false (fy PG σ .eq d y) (.ok (.v (.bool true)) σ ls) (.ok (.v (.bool false)) σ ls)|_=> .no) (h.mono fun r A Z h=>?_);obtain ⟨d',rfl,J,h⟩:=h;show ao B (.br (fy PG A .eq d d') (.ok (.v (.bool true)) A ls) (.ok (.v (.bool false)) A ls));rw [J];exact h
set_option backward.match.sparseCases false in
theorem Fe {rr k v:Nat} {t:TC} {l0:zL} (h:aF ls x=some (.aj rr k)) (X:ja σ rr=some t) (w:t.get k=some ⟨v,.list l0⟩) (H:l0.length≤5000) (p:B (.v (.bool (!Nat.blt 0 l0.length))) σ ls):ao B (run PG (n+2) false av (.e (.not (.l x))) σ ls):=by show ao B (bv (bo (aF ls x) fun d=> .ok (.v d) σ ls) fun d σ=>iL false σ d (.ok (.v (.bool false)) σ ls) (.ok (.v (.bool true)) σ ls));rw [h];show ao B (.oc (ja σ rr) k fun c=>match c.b with| .list l=> .br (some (small l.length)) (.br (some (Nat.blt 0 l.length)) (.ok (.v (.bool false)) σ ls) (.ok (.v (.bool true)) σ ls)) .no|_=> .no);rw [X];refine eN w ?_;show ao B (.br (some (small l0.length)) (.br (some (Nat.blt 0 l0.length)) (.ok (.v (.bool false)) σ ls) (.ok (.v (.bool true)) σ ls)) .no);rw [aB H];show ao B (.br (some (Nat.blt 0 l0.length)) (.ok (.v (.bool false)) σ ls) (.ok (.v (.bool true)) σ ls));revert p;cases Nat.blt 0 l0.length<;>exact fun p=>p
end
section
variable {B:zP} {sc:zL} {T:TC} {u0 u1 u2 n:Nat} {l:List MS}
theorem CJ (h0:T.get 0=some ⟨u0,.list sc⟩) (Y:T.get 1=some ⟨u1,.var none⟩) (X:T.get 2=some ⟨u2,.var none⟩) (H:sc.length≤5000)
  (kA:4≤sc.length→∀t,LF t (sc.take 32) 0 (some (.aj 2 0)) [] (some ⟨u0,.list sc⟩)→ao B (run PG (n+556) false 0 (.ss l) [⟨6,t⟩,M1,nT 2,O0,O0,O0,O0,O0,O0,O0,O0,O0] (kC [])))
  (kB:sc.length<4→∀t,LF t (sc.take 32) 0 (some (.aj 3 0)) [] (some ⟨u0,.list sc⟩)→ao B (run PG (n+556) false 0 (.ss l) [⟨6,t⟩,M1,O0,nT 3,O0,O0,O0,O0,O0,O0,O0,O0] (kC []))):
  ao B (run PG (n+560) false 0 (.ss (cI 0::cI 1::cI 2::cI 3::l)) [⟨3,T⟩,O0,O0,O0,O0,O0,O0,O0,O0,O0,O0,O0] [(105,.aj 0 0),(106,.aj 0 1),(90,.aj 0 2)]):=by
 refine QO (n:=n+530) (E:=⟨3,T⟩) h0 (aB H) ?_;rw [show cI 1= .kc 90 (.call (some true) (.bX 1) 704 []) from cg,show cI 2= .kc 106 (.call (some true) (.sel 105) 501 []) from cg,show cI 3= .b7 107 (.lst []) from cg];have ov:∀{i j:Nat} {c:Cell} {t:TC} {o:Option Cell},j≠i→t.get j=o→(TC.aq i c t).get j=o:=fun h e=>by rw [TC.ay,aS h];exact e
 have F:∀{i:Nat} {c:Cell} {t:TC},(TC.aq i c t).get i=some c:=by intros;rw [TC.ay,bk rfl]
 refine uo (f:=0) (n:=n+558) (iQ (n:=n+557) Qe ⟨[],1,_,rfl,fun k p=>p,B5 _,?_⟩);refine ⟨_,0,2,_,u2,none,rfl,rfl,rfl,ov (bA rfl) (ov (bA rfl) X),?_⟩;show ao B (run PG (n+558) false 0 (.ss (.kc 106 (.call (some true) (.sel 105) 501 []):: .b7 107 (.lst [])::l)) [⟨5,.aq 2 ⟨u2+1,.var (some (.aj 1 8))⟩ (.aq 4 ⟨0,wB 0⟩ (.aq 3 ⟨0,.list (sc.take 32)⟩ T))⟩,M1,O0,O0,O0,O0,O0,O0,O0,O0,O0,O0] [(105,.aj 0 0),(106,.aj 0 1),(90,.aj 0 2),(84,.aj 0 4)]);have L:∀y,LF (.aq 5 ⟨0,.list []⟩ (.aq 1 ⟨u1+1,.var (some y)⟩ (.aq 2 ⟨u2+1,.var (some (.aj 1 8))⟩ (.aq 4 ⟨0,wB 0⟩ (.aq 3 ⟨0,.list (sc.take 32)⟩ T))))) (sc.take 32) 0 (some y) [] (some ⟨u0,.list sc⟩):=fun y=>⟨⟨_,ov (bA rfl) F⟩,⟨_,ov (bA rfl) (ov (bA rfl) F)⟩,⟨_,ov (bA rfl) (ov (bA rfl) (ov (bA rfl) (ov (bA rfl) F)))⟩,⟨_,ov (bA rfl) (ov (bA rfl) (ov (bA rfl) F))⟩,⟨_,F⟩,ov (bA rfl) (ov (bA rfl) (ov (bA rfl) (ov (bA rfl) (ov (bA rfl) h0))))⟩
 have sel:∀{Ψ:zP} {D:Rg} {k:Nat→ah→RR},ao Ψ (match Nat.blt sc.length 4 with|true=>k 3 [⟨5,.aq 2 ⟨u2+1,.var (some (.aj 1 8))⟩ (.aq 4 ⟨0,wB 0⟩ (.aq 3 ⟨0,.list (sc.take 32)⟩ T))⟩,D,O0,O0,O0,O0,O0,O0,O0,O0,O0,O0]|false=>k 2 [⟨5,.aq 2 ⟨u2+1,.var (some (.aj 1 8))⟩ (.aq 4 ⟨0,wB 0⟩ (.aq 3 ⟨0,.list (sc.take 32)⟩ T))⟩,D,O0,O0,O0,O0,O0,O0,O0,O0,O0,O0])→ao Ψ (yt false 0 (.sel 105) [⟨5,.aq 2 ⟨u2+1,.var (some (.aj 1 8))⟩ (.aq 4 ⟨0,wB 0⟩ (.aq 3 ⟨0,.list (sc.take 32)⟩ T))⟩,D,O0,O0,O0,O0,O0,O0,O0,O0,O0,O0] [(105,.aj 0 0),(106,.aj 0 1),(90,.aj 0 2),(84,.aj 0 4)] k):=fun {Ψ D k} p=>by refine eN (ov (bA rfl) (ov (bA rfl) (ov (bA rfl) h0))) ?_;revert p;show _→ao Ψ (.br (some (Nat.blt sc.length 4)) _ _);cases Nat.blt sc.length 4<;>exact fun p=>p
 by_cases S:sc.length<4
 ·have hb:Nat.blt sc.length 4=true:=Nat.ble_eq_true_of_le S
  refine uo (f:=0) (n:=n+557) (iQ (n:=n+556) Jz ⟨[],3,_,rfl,fun k p=>sel (by rw [hb];exact p),u_ _ _ O0 O0,?_⟩);refine ⟨_,0,1,_,u1,none,rfl,rfl,rfl,ov (bA rfl) (ov (bA rfl) (ov (bA rfl) Y)),?_⟩;exact k8 (n:=n+556) (JD (n:=n+526) (E:=⟨5,.aq 1 _ _⟩) ⟨_,rfl,kB S _ (L _)⟩)
 ·have hb:Nat.blt sc.length 4=false:=by rw [blt_iff];exact nU S
  refine uo (f:=0) (n:=n+557) (iQ (n:=n+556) Jz ⟨[],2,_,rfl,fun k p=>sel (by rw [hb];exact p),B6 _ _,?_⟩);refine ⟨_,0,1,_,u1,none,rfl,rfl,rfl,ov (bA rfl) (ov (bA rfl) (ov (bA rfl) Y)),?_⟩;exact k8 (n:=n+556) (JD (n:=n+526) (E:=⟨5,.aq 1 _ _⟩) ⟨_,rfl,kA (Qi H S) _ (L _)⟩)
end
section
variable {B:zP} {D G M:Rg} {inl:zL} {t:TC} {one:Option DV} {l:List MS} {n:Nat} {c0:Option Cell}
theorem vz (L:LF t inl 0 one [] c0) (hi:∀(i:Nat) (d:DV),inl[i]?=some d→∃x,d= .int x) (H:inl.length≤32)
  (k:∀(cs:List (Nat×Nat×Nat)) (t:TC) (lt:Lc),cs.length=inl.length/4→(∀c∈cs,PC c)→LF t inl (3*(inl.length/4)) one (cs.map mU) c0→(lt=[]∨∃a b c,lt=[(26,a),(100,b),(24,c)])→ao B (run PG (n+555) false 0 (.ss l) [⟨6,t⟩,D,G,M,O0,O0,O0,O0,O0,O0,O0,O0] (kC lt))):ao B (run PG (n+556) false 0 (.ss (cI 4::l)) [⟨6,t⟩,D,G,M,O0,O0,O0,O0,O0,O0,O0,O0] (kC [])):=by
 rw [show cI 4= .cj 26 (LC (cI 4)) (i8 (cI 4)) from cg];have ⟨_,_,⟨v3,w⟩,⟨v4,S⟩,_,_⟩:=L;refine rW (n:=n+555) (QU (n:=n+525) (E:=⟨6,t⟩) (lt:=[]) S w (aB (FJ H)) ⟨_,rfl,by exact Ql H,?_⟩);obtain ⟨m,hm⟩:∃m,n+555=inl.length/4+70+m+1:=⟨n+484 -inl.length/4,by exact Qn H⟩
 have C:=lV (Ψ:=Lg B (n+555) 0 l) (x:=26) (b:=i8 (cI 4)) (av:=0) (K:=70) (tot:=inl.length/4) (N:=inl.length/4) (i:=0) (m:=m) (σ:=[⟨6,t⟩,D,G,M,O0,O0,O0,O0,O0,O0,O0,O0]) (ls:=kC [])
  (Iv:=fun i σ ls=>∃(cs:List (Nat×Nat×Nat)) (t:TC) (lt:Lc),σ=[⟨6,t⟩,D,G,M,O0,O0,O0,O0,O0,O0,O0,O0]∧ls=kC lt∧cs.length=i∧(∀c∈cs,PC c)∧LF t inl (3*i) one (cs.map mU) c0∧(lt=[]∨∃a b c,lt=[(26,a),(100,b),(24,c)])) (fun i σ ls m hit h=>by
   refine p9 h fun cs t lt R Q J u L P=>?_;subst R;subst Q;obtain ⟨lt',e,V⟩:∃lt',aV (kC lt) 26 (I i)=kC lt'∧(lt'=[(26,I i)]∨∃a b,lt'=[(26,I i),(100,a),(24,b)]):=by
    rcases P with rfl|⟨a,b,c,rfl⟩
    ·exact ⟨_,rfl,.inl rfl⟩
    ·exact ⟨_,rfl,.inr ⟨_,_,rfl⟩⟩
   rw [e];refine xh (n:=m) (E:=⟨6,t⟩) (d:= .none) L hi H (Qq hit J) (by rw [List.length_map];exact Qs hit J H) V fun c t' hp L'=>⟨rfl,cs++[c],t',_,rfl,rfl,by rw [fO,J];rfl,fun c' g=>(jx g).elim (u c') fun z=>nW z▸hp,?_,.inr ⟨_,_,_,rfl⟩⟩
   rw [List.map_append];exact L') Qu ⟨[],t,[],rfl,rfl,rfl,fun c J=>(nomatch J),L,.inl rfl⟩ fun σ ls h=>by
   refine p9 h fun cs t lt R Q J u L P=>?_;subst R;subst Q;exact k cs t lt J u L P
 rw [←hm] at C;exact C
end
end
section
structure LS (ls:Lc):Prop where
 a:aF ls 90=some (.aj 0 2)
 b:aF ls 106=some (.aj 0 1)
 c:aF ls 84=some (.aj 0 4)
 d:aF ls 107=some (.aj 0 5)
 e:aF ls 104=some (.aj 0 6)
 f:aF ls 108=some (.aj 3 0)
theorem LS.put {ls:Lc} {x:Nat} {d:DV} (L:LS ls) (h:x=26∨x=103):LS (aV ls x d):=by
 have q:∀{y:Nat} {o:Option DV},y≠26→y≠103→aF ls y=o→aF (aV ls x d) y=o:=fun j C e=>by rw [dG,aS (Qd h C j)];exact e
 exact ⟨q aD aD L.a,q aD aD L.b,q aD aD L.c,q aD aD L.d,q aD aD L.e,q aD aD L.f⟩
noncomputable abbrev RE (R:Nat) (f:Addr):ME:= .not (.call (some true) (.bX R) f [.l 108,.lc 90])
noncomputable abbrev TL:ME:= .bin .add (.c (I 1)) (.bin .mod (.bin .add (.bin .add (.c (I 25)) (.bin .mul (.c (I 13)) (.l 26))) (.call none .av 683 [.l 84,.c (I 55)])) (.c (I 55)))
noncomputable abbrev Mt:MS:= .iff (.not (.call none (.bX 6) 754 [.l 108,.lc 90,TL])) [.ret (some (.c (.bool false)))] []
section
variable {H:zP} {n:Nat} {E D G M V Y J Z u Q U A:Rg} {inl cl:zL} {bX:Nat} {one:Option DV} {l:List MS} {ls:Lc} {x:List KR} {r:Option Cell}
theorem RJ {σ:ah} {t:TC} {v:Nat} (S:LS ls) (h:ja σ 0=some t) (C:t.get 2=some ⟨v,.var (some (.aj 1 8))⟩) (p:H (.vs [.aj 3 0,.aj 1 8]) σ ls):ao H (run PG (n+4) false 0 (.es [.l 108,.lc 90]) σ ls):=
 dm (n:=n+3) (tH (n:=n+2) S.f ⟨_,rfl,dm (n:=n+2) (rX (n:=n+1) S.a h C ⟨_,rfl,⟨_,rfl,⟨_,rfl,p⟩⟩⟩)⟩)
theorem Ce {i:Nat} (hi:i<3) (S:LS ls) (B:aF ls 26=some (I i)) (L:LF E.t inl bX one cl r) (P:∀(i:Nat) (d:DV),inl[i]?=some d→∃x,d= .int x) (g:inl.length≤32) (F:FS M.t x) (X:x.length≤90) (s:dz a0 D U)
  (N:∀v K T x',FS K.t x'→x'.length≤x.length+4→H (.f .next) [⟨E.n,.aq 4 ⟨v,wB (bX+1)⟩ E.t⟩,D,G,K,V,Y,T,Z,u,Q,U,A] ls):ao H (run PG (n+410) false 0 (.ss [Mt]) [E,D,G,M,V,Y,J,Z,u,Q,U,A] ls):=by
 have ⟨_,⟨w2,C⟩,_,_,_,_⟩:=L;refine zI (n:=n+408) (uq (n:=n+408) (qi (n:=n+407) (gO (n:=n+406) (R:=6) (fun W W W=>rfl) ?_)));refine dm (n:=n+405) (tH (n:=n+404) S.f ⟨_,rfl,?_⟩);refine dm (n:=n+404) (rX (n:=n+403) S.a rfl C ⟨_,rfl,?_⟩);refine dm (n:=n+403) (oQ (n:=n+402) (a:= .c (I 1)) ⟨1,rfl,?_⟩);refine oQ (n:=n+401) (oQ (n:=n+400) (oQ (n:=n+399) (a:= .c (I 25)) ⟨25,rfl,?_⟩));have hm:binI .mul 13 (.ofNat i)=some (.ofNat (13*i)):=by rcases (Qf hi:i=0∨i=1∨i=2) with rfl|rfl|rfl<;>rfl
 refine oQ (n:=n+398) (a:= .c (I 13)) ⟨13,rfl,tH (n:=n+397) B ⟨_,_,rfl,hm,?_⟩⟩;refine ⟨_,.ofNat (25+13*i),rfl,rfl,?_⟩;refine ⟨_,rfl,gO (n:=n+399) (R:=0) (fun W W W=>rfl) ?_⟩;refine dm (n:=n+398) (tH (n:=n+397) S.c ⟨_,rfl,dm (n:=n+397) (e:= .c _) (es:=[]) ⟨_,rfl,⟨_,rfl,⟨_,rfl,⟨_,rfl,?_⟩⟩⟩⟩⟩);refine qX (n:=n+339) (m:=54) L P g fun k v hk=>⟨_,.ofNat (25+13*i+k),rfl,rfl,?_⟩
 refine ⟨_,rfl,⟨_,.ofNat ((25+13*i+k)%55),rfl,rfl,?_⟩⟩;refine ⟨_,.ofNat ((25+13*i+k)%55+1),rfl,by show some (_:Int)=_;simp only [Int.ofNat_eq_natCast];congr 1;exact Qg,?_⟩;refine ⟨_,rfl,⟨_,rfl,⟨_,rfl,⟨_,rfl,⟨_,rfl,?_⟩⟩⟩⟩⟩;refine zq (n:=n+6) (E:=⟨E.n,_⟩) (t:=(25+13*i+k)%55) F X s Qh<|fun K T x' w O=>⟨rfl,rfl,rfl,N _ _ _ _ w O⟩
end
end
section
noncomputable abbrev Sl:ME:= .and [.cmp .eq (.l 104) (.l 103),.or [.not (.l 107),.call none (.bX 11) 716 [.lc 106,.lc 90]]]
theorem Fb {O:zP} {n av:Nat} {e:ME} {σ:ah} {ls:Lc} (p:ao O (run PG n false av (.e e) σ ls)):ao O (run PG (n+1) false av (.e (.and [e])) σ ls):=p
theorem IV {O:zP} {n av:Nat} {e:ME} {σ:ah} {ls:Lc} (p:ao O (run PG n false av (.e e) σ ls)):ao O (run PG (n+1) false av (.e (.or [e])) σ ls):=p
section
variable {O:zP} {n v6:Nat} {D G M Q:Rg} {inl:zL} {bX:Nat} {one:Option DV} {l:List MS} {ls:Lc} {x:List KR} {cs:List (Nat×Nat×Nat)} {t:TC} {q:Option Cell}
theorem law_fin {V Y J U:Rg} (S:LS ls) (L:LF t inl bX one (cs.map mU) q) (X:∃v,t.get 6=some ⟨v,.list (fR a0 cs)⟩) (H:cs.length≤8) (hc:∀c∈cs,PC c) (s:dz a0 D U) (h1:cs≠[]→one=some (.aj 2 0)∧eY (lJ a0 cs) G Q∧dN cs.length (lJ a0 cs)∧uV (lJ a0 cs))
  (P:∀σ ls,aN σ 0 0=q→O (.f (.ret (.bool true))) σ ls):ao O (run PG (n+550) false 0 (.ss [cI 10,cI 11]) [⟨7,t⟩,D,G,M,V,Y,J,O0,O0,Q,U,O0] ls):=by
 rw [show cI 10= .mJ 103 (.comp [100,24,26] Rx false (.l 107) none [90]) from cg,show cI 11= .ret (some Sl) from cg];have hm:∀{d:DV→DV},(cs.map mU).length=cs.length:=List.length_map _;have ho:=nC (cs:=cs) (a:=a0);have ⟨⟨w1,q1⟩,⟨w2,z⟩,_,_,⟨w5,q5⟩,q0⟩:=L;refine aA X fun v6 X=>?_;obtain ⟨m,T⟩:∃m,n+549=cs.length+80+m+1:=⟨n+468 -cs.length,by exact Qj ho H⟩
 have C:=Bk (m:=m) (E:=⟨7,t⟩) (G:=G) (M:=M) (V:=V) (Y:=Y) (J:=J) (Z:=O0) (u:=O0) (Q:=Q) (A:=O0) L q5 s H_ H hc;rw [←T] at C;refine qj (n:=n+549) (l0:=[(90,.aj 0 2)]) (by show (match aF ls 90 with|some d=>some [(90,d)]|none=>none)=_;rw [S.a]) (tH (n:=n+548) S.d ⟨0,5,w5,_,rfl,q5,by rw [List.length_map];exact JA T ho H,C.mono fun r σ W h=>?_⟩);obtain ⟨rfl,g,h,rfl,SS⟩:=h;refine ⟨_,⟨7,t⟩,rfl,by exact Qk T ho H,rfl,?_⟩;have S':=S.put (x:=103) (d:= .aj 0 7) (.inr rfl);have ov:∀{j:Nat} {c:Cell} {o:Option Cell},Nat.beq j 7=false→t.get j=o→(TC.aq 7 c t).get j=o:=fun h e=>by rw [TC.ay,aS (bA h)];exact e
 have Wo:(TC.aq 7 ⟨0,.list (fR a0 cs)⟩ t).get 7=some ⟨0,.list (fR a0 cs)⟩:=by rw [TC.ay,bk rfl]
 have w:(TC.aq 7 ⟨0,.list (fR a0 cs)⟩ t).get 0=q:=ov rfl q0;have Wn:(TC.aq 7 ⟨0,.list (fR a0 cs)⟩ t).get 6=some ⟨v6,.list (fR a0 cs)⟩:=ov rfl X;show ao O (run PG (n+549) false 0 (.ss [.ret (some Sl)]) [⟨8,.aq 7 ⟨0,.list (fR a0 cs)⟩ t⟩,g,G,M,V,Y,J,O0,O0,Q,h,O0] (aV ls 103 (.aj 0 7)));refine D0 (n:=n+548) (Fc (n:=n+547) (Fd (n:=n+546) (tH (n:=n+545) S'.e ⟨_,rfl,tH (n:=n+545) (by rw [dG,bk rfl]) ⟨_,rfl,zj (r:=0) (k:=6) (r':=0) (k':=7) (l:=fR a0 cs) (v:=v6) (v':=0) Wn Wo wg,rfl,?_⟩⟩)));refine Fb (n:=n+546)<|IW (n:=n+545) (Fe (n:=n+543) S'.d rfl (ov rfl q5) (by rw [List.length_map];exact JA T ho H) ⟨_,rfl,?_⟩)
 cases cs with
 |nil=>exact ⟨_,rfl,P _ _ w⟩
 |cons c cs=>
  refine zf (h1 (fun e=>nomatch e)) fun xj HS B N=>?_;subst xj;refine IV (n:=n+544)<|gO (n:=n+543) (R:=11) (fun W W W=>rfl) (dm (n:=n+542) (rX (n:=n+541) S'.b rfl (ov rfl q1) ⟨_,rfl,dm (n:=n+541) (rX (n:=n+540) S'.a rfl (ov rfl z) ⟨_,rfl,⟨_,rfl,⟨_,rfl,⟨_,rfl,?_⟩⟩⟩⟩)⟩))
  exact CU (n:=n+143) HS SS B H N fun r=>⟨_,rfl,P _ _ w⟩
theorem r_ (S:LS ls) (L:LF t inl bX one (cs.map mU) q) (X:∃v,t.get 6=some ⟨v,.list (fR a0 cs)⟩) (hin:∀(i:Nat) (d:DV),inl[i]?=some d→∃x,d= .int x) (hl:inl.length≤32) (H:cs.length≤8) (hc:∀c∈cs,PC c) (h1:cs≠[]→one=some (.aj 2 0)∧eY (lJ a0 cs) G Q∧dN cs.length (lJ a0 cs)∧uV (lJ a0 cs))
  (P:∀σ ls,aN σ 0 0=q→O (.f (.ret (.bool true))) σ ls):ao O (run PG (n+552) false 0 (.ss [cI 8,cI 9,cI 10,cI 11]) [⟨7,t⟩,M1,G,nT 3,O0,O0,O0,O0,O0,Q,O0,O0] ls):=by
 have F0:FS (nT 3).t []:=TX Me;have s:∀h,dz a0 M1 h:=fun h=>D4 Im;have ⟨_,⟨w2,z⟩,_,_,_,_⟩:=L;rw [show cI 8= .iff (.or [RE 4 721,RE 5 716]) [.ret (some (.c (.bool false)))] [] from cg,show cI 9= .cj 26 (.c (I 3)) [Mt] from cg];refine zI (n:=n+550) (zE (n:=n+550) (uq (n:=n+549) (qi (n:=n+548) (iQ (n:=n+547) Qt (RJ (n:=n+543) S rfl z ⟨_,4,_,rfl,fun k p=>p,Th ⟨7,t⟩ G Q,rfl,rfl,rfl,?_⟩)))));refine zE (n:=n+549) (uq (n:=n+548) (qi (n:=n+547) (iQ (n:=n+546) Qw (RJ (n:=n+542) S rfl z ⟨_,5,_,rfl,fun k p=>p,Ti ⟨7,t⟩ G _ Q,rfl,rfl,rfl,⟨rfl,?_⟩⟩))));generalize BH 5 _=Y;generalize BH 4 _=V;revert F0 s;generalize nT 3=M;generalize M1=D;intro F0 s;refine rW (n:=n+550) (e:= .c (I 3)) ⟨3,rfl,by decide,?_⟩;have C:=lV (Ψ:=Lg O (n+550) 0 [cI 10,cI 11]) (x:=26) (b:=[Mt]) (av:=0) (K:=410) (tot:=3) (N:=3) (i:=0) (m:=n+136) (σ:=[⟨7,t⟩,D,G,M,V,Y,O0,O0,O0,Q,O0,O0]) (ls:=ls)
  (Iv:=fun i σ ls=>∃t y r6 x,σ=[⟨7,t⟩,D,G,y,V,Y,r6,O0,O0,Q,O0,O0]∧LS ls∧LF t inl (bX+i) one (cs.map mU) q∧(∃v,t.get 6=some ⟨v,.list (fR a0 cs)⟩)∧FS y.t x∧x.length≤4*i) (fun i σ ls m hi h=>by
   obtain ⟨t,y,r6,x,rfl,S,L,⟨v,g⟩,F,hx⟩:=h;refine Ce (n:=m) (E:=⟨7,t⟩) hi (S.put (.inl rfl)) (by rw [dG,bk rfl]) L hin hl F (Qx hi hx) (s _) fun v' r3' Wv x' F' hx'=>⟨rfl,_,r3',Wv,x',rfl,S.put (.inl rfl),L.w' (b:=bX+(i+1)),⟨v,?_⟩,F',by exact Qy hx hx'⟩
   rw [TC.ay,aS aD];exact g) rfl ⟨t,M,O0,[],rfl,S,L,X,F0,jd _⟩ fun σ ls h=>by
   obtain ⟨t,y,r6,x,rfl,S,L,X,F,hx⟩:=h;exact law_fin S L X H hc (s _) h1 P
 rw [show n+550=3+410+(n+136)+1 by exact JB];rw [show n+550=3+410+(n+136)+1 by exact JB] at C;exact C
end
end
section
section
variable {P:zP} {n:Nat} {D G M:Rg} {inl:zL} {bX:Nat} {one:Option DV} {l:List MS} {ls lt:Lc} {cs:List (Nat×Nat×Nat)} {t:TC} {v:Option Cell}
theorem Af (h:lt=[]∨∃a b c,lt=[(26,a),(100,b),(24,c)]):LS (aV (aV (kC lt) 104 (.aj 0 6)) 108 (.aj 3 0))∧∃l2,aV (kC lt) 104 (.aj 0 6)=kC l2:=by
 rcases h with rfl|⟨a,b,c,rfl⟩
 ·exact ⟨⟨rfl,rfl,rfl,rfl,rfl,rfl⟩,_,rfl⟩
 ·exact ⟨⟨rfl,rfl,rfl,rfl,rfl,rfl⟩,_,rfl⟩
theorem Sv:cI 5= .mJ 104 (.comp [100,24,26] Mb false (.l 107) none [90,106]):=by kernel_rfl
theorem Sz:cI 6= .iff (.l 107) (i8 (cI 6)) []:=by kernel_rfl
theorem SA:cI 7= .b7 108 (.ite (.l 107) (.call (some true) (.bX 3) 501 []) (.lc 106)):=by kernel_rfl
theorem z_ (L:LF t inl bX (some (.aj 2 0)) (cs.map mU) v) (F:lt=[]∨∃a b c,lt=[(26,a),(100,b),(24,c)]) (j:∀(i:Nat) (d:DV),inl[i]?=some d→∃x,d= .int x) (q:inl.length≤32) (H:cs.length≤8) (h0:cs≠[]) (O:∀c∈cs,PC c) (K:∀σ ls,aN σ 0 0=v→P (.f (.ret (.bool true))) σ ls):
  ao P (run PG (n+555) false 0 (.ss [cI 5,cI 6,cI 7,cI 8,cI 9,cI 10,cI 11]) [⟨6,t⟩,M1,nT 2,O0,O0,O0,O0,O0,O0,O0,O0,O0] (kC lt)):=by
 rw [Sv,Sz,SA];have HM:∀h,dz a0 M1 h:=fun h=>D4 Im;have HS:eY a0 (nT 2) O0:=I8 Mc;generalize nT 2=G at HS⊢;have ho:=nC (cs:=cs) (a:=a0);have ⟨⟨w1,q1⟩,⟨w2,q2⟩,_,_,⟨w5,z⟩,_⟩:=L;have hb:Nat.blt 0 (cs.map mU).length=true:=by
  rw [List.length_map];cases cs with
  |nil=>exact absurd rfl h0
  |cons=>exact Nat.ble_eq_true_of_le (Nat.succ_le_succ (Nat.zero_le _))
 obtain ⟨m,R⟩:∃m,n+554=cs.length+80+m+1:=⟨n+473 -cs.length,by exact Qo ho H⟩
 have C:=tR (m:=m) (E:=⟨6,t⟩) (M:=O0) (V:=O0) (Y:=O0) (J:=O0) (Z:=O0) (u:=O0) (Q:=O0) (U:=O0) (A:=O0) L z HS (HM _) H_ Q5 H O;rw [←R] at C;refine qj (n:=n+554) (l0:=[(90,.aj 0 2),(106,.aj 0 1)]) rfl (tH (n:=n+553) rfl ⟨0,5,w5,_,rfl,z,by rw [List.length_map];exact FL R ho H,C.mono fun r σ X h=>?_⟩);obtain ⟨rfl,g,h,rfl,IS,B,N⟩:=h;refine ⟨_,⟨6,t⟩,rfl,by exact Qp R ho H,rfl,?_⟩;have s:LF (.aq 6 ⟨0,.list (fR a0 cs)⟩ t) inl bX (some (.aj 2 0)) (cs.map mU) v:=L.up (jd _);have w:(TC.aq 6 ⟨0,.list (fR a0 cs)⟩ t).get 6=some ⟨0,.list (fR a0 cs)⟩:=by rw [TC.ay,bk rfl]
 have ⟨⟨x1,p1⟩,_,_,_,⟨x5,p5⟩,_⟩:=s;obtain ⟨S,l2,y⟩:=Af F;rw [y] at S;show ao P (run PG (n+554) false 0 (.ss [.iff (.l 107) (i8 (cI 6)) [],.b7 108 (.ite (.l 107) (.call (some true) (.bX 3) 501 []) (.lc 106)),cI 8,cI 9,cI 10,cI 11]) [⟨7,.aq 6 ⟨0,.list (fR a0 cs)⟩ t⟩,M1,g,O0,O0,O0,O0,O0,O0,h,O0,O0] (aV (kC lt) 104 (.aj 0 6)));rw [y];generalize TC.aq 6 ⟨0,.list (fR a0 cs)⟩ t=t' at s w p1 p5⊢;refine DY (n:=n+553) (Cj (n:=n+551) rfl rfl p5 (by rw [List.length_map];exact FL R ho H) ⟨true,by rw [hb],?_⟩);refine Gm (n:=n+493) (E:=⟨7,t'⟩) p1 IS fun g' SV=>⟨rfl,?_⟩
 refine k8 (n:=n+552) (DZ (n:=n+551) (Cj (n:=n+549) rfl rfl p5 (by rw [List.length_map];exact FL R ho H) ⟨true,by rw [hb],?_⟩));exact iQ (n:=n+550) Qv ⟨[],3,_,rfl,fun k p=>p,u_ ⟨7,t'⟩ M1 g' h,⟨_,rfl,r_ S s ⟨_,w⟩ j q H O (fun X=>⟨rfl,SV,B,N⟩) K⟩⟩
theorem IU {σ:ah} {xs:List Nat} {g:zO} {e:ME} {av:Nat} (p:P (.vs []) σ ls):ao P (run PG (n+1) false av (.cp xs g [] e none) σ ls):=p
theorem Aa (L:LF t inl bX (some (.aj 3 0)) ([].map mU) v) (F:lt=[]∨∃a b c,lt=[(26,a),(100,b),(24,c)]) (j:∀(i:Nat) (d:DV),inl[i]?=some d→∃x,d= .int x) (q:inl.length≤32) (K:∀σ ls,aN σ 0 0=v→P (.f (.ret (.bool true))) σ ls):
  ao P (run PG (n+555) false 0 (.ss [cI 5,cI 6,cI 7,cI 8,cI 9,cI 10,cI 11]) [⟨6,t⟩,M1,O0,nT 3,O0,O0,O0,O0,O0,O0,O0,O0] (kC lt)):=by
 rw [Sv,Sz,SA];have ⟨⟨w1,q1⟩,⟨w2,q2⟩,_,_,⟨w5,z⟩,_⟩:=L;refine qj (n:=n+554) (l0:=[(90,.aj 0 2),(106,.aj 0 1)]) rfl (tH (n:=n+553) rfl ⟨0,5,w5,_,rfl,z,by show 0≤5000;decide,IU (n:=n+553) ?_⟩);refine ⟨_,⟨6,t⟩,rfl,by show 0≤5000;decide,rfl,?_⟩;have s:LF (.aq 6 ⟨0,.list []⟩ t) inl bX (some (.aj 3 0)) ([].map mU) v:=L.up (jd _);have w:(TC.aq 6 ⟨0,.list []⟩ t).get 6=some ⟨0,.list (fR a0 [])⟩:=by rw [TC.ay,bk rfl];rfl
 have ⟨⟨x1,p1⟩,_,_,_,⟨x5,p5⟩,_⟩:=s;obtain ⟨S,l2,y⟩:=Af F;rw [y] at S;show ao P (run PG (n+554) false 0 (.ss [.iff (.l 107) (i8 (cI 6)) [],.b7 108 (.ite (.l 107) (.call (some true) (.bX 3) 501 []) (.lc 106)),cI 8,cI 9,cI 10,cI 11]) [⟨7,.aq 6 ⟨0,.list []⟩ t⟩,M1,O0,nT 3,O0,O0,O0,O0,O0,O0,O0,O0] (aV (kC lt) 104 (.aj 0 6)));rw [y];generalize TC.aq 6 ⟨0,.list []⟩ t=t' at s w p1 p5⊢;refine DY (n:=n+553) (Cj (n:=n+551) rfl rfl p5 (by show 0≤5000;decide) ⟨false,rfl,⟨rfl,?_⟩⟩);refine k8 (n:=n+552) (DZ (n:=n+551) (Cj (n:=n+549) rfl rfl p5 (by show 0≤5000;decide) ⟨false,rfl,rX (n:=n+550) rfl rfl p1 ⟨_,rfl,?_⟩⟩));exact r_ (cs:=[]) S s ⟨_,w⟩ j q (Nat.zero_le _) (fun c h=>nomatch h) (fun h=>absurd rfl h) K
end
theorem FQ {P:zP} {n u0 u1 u2:Nat} {sc:zL} {T:TC} (h0:T.get 0=some ⟨u0,.list sc⟩) (h1:T.get 1=some ⟨u1,.var none⟩) (h2:T.get 2=some ⟨u2,.var none⟩) (q:sc.length≤63) (j:∀d∈sc,∃x,d= .int x) (K:∀σ ls,aN σ 0 0=some ⟨u0,.list sc⟩→P (.f (.ret (.bool true))) σ ls):ao P (run PG (n+560) false 0 (.ss gx.body) [⟨3,T⟩,O0,O0,O0,O0,O0,O0,O0,O0,O0,O0,O0] [(105,.aj 0 0),(106,.aj 0 1),(90,.aj 0 2)]):=by
 rw [show gx.body=[cI 0,cI 1,cI 2,cI 3,cI 4,cI 5,cI 6,cI 7,cI 8,cI 9,cI 10,cI 11] from cg];have I:∀(i:Nat) (d:DV),(sc.take 32)[i]?=some d→∃x,d= .int x:=fun i d h=>j d (List.mem_of_mem_take (List.mem_of_getElem? h));have X:(sc.take 32).length≤32:=by rw [List.length_take];exact Qz q
 have o:(sc.take 32).length=min 32 sc.length:=List.length_take;refine CJ (n:=n) h0 h1 h2 (QA q) (fun h4 t L=>?_) fun h4 t L=>?_
 ·refine vz (n:=n) L I X fun cs t lt O hP L F=>z_ (n:=n) L F I X (QB O o X) (fun e=>?_) hP K
  rw [e] at O;have O:0=(sc.take 32).length/4:=O;exact QC O h4 o q
 ·refine vz (n:=n) L I X fun cs t lt O hP L F=>?_
  cases cs with
  |nil=>exact Aa (n:=n) L F I X K
  |cons c cs=>have O:cs.length+1=(sc.take 32).length/4:=O;exact absurd O (by rw [Nat.div_eq_of_lt (by rw [o];exact Nat.lt_of_le_of_lt (Nat.min_le_right _ _) h4)];exact Nat.succ_ne_zero _)
end
section
variable {h:Heap}
noncomputable def JU (o:Obj):Bool:=match o.data with
 | .seq _ _=>decide (o.cls= .type "tuple")
 |_=>true
theorem CF (w:World):((zk w).all fun p=>JU p.2)=true:=by kernel_rfl
theorem k9 {α:Type} {x:Addr} {v:α}:∀{l:List (Addr×α)},l.lookup x=some v→(x,v)∈l
 |[],h=>nomatch h
 |(y,a)::l,h=>by
  rw [List.lookup_cons] at h;cases e:x==y with
  |true=>rw [e] at h;cases h;rw [eq_of_beq e];exact .head _
  |false=>rw [e] at h;exact .tail _ (k9 h)
section
variable {w:World} {s:Shared} {a:Addr} {vs:zV} {xs:List Int} {mg mb:Str→Option Value} {R:Result→Shared→Prop}
theorem zK {b:Addr} {o:Obj} (e:h.get? b=some o) (n:b≠a):(hideAll h [a]).get? b=some o:=hideAll_get _ e fun q=>n (nW q)
theorem qK {A:Addr} {m:Str→Option Value} (J:h.get? a=some (bV vs 0)) (N:h.Ns A m):(hideAll h [a]).Ns A m:=by
 refine xo N fun oL es ep Q Z r=>⟨oL,es,ep,zK Q fun q=>?_,Z,r⟩
 subst q;cases J.symm.trans Q;exact nomatch Z
theorem Bf (J:s.heap.get? a=some (bV vs 0)) (T:TopRead V0 (looseW V0 LOO) mg mb s.heap):TopRead V0 (looseW V0 LOO) mg mb (hideAll s.heap [a]):=
 ⟨qK J T.g,qK J T.b,let ⟨mc,x,y⟩:=T.nolimit;⟨mc,qK J x,y⟩,T.builtins,T.free⟩
theorem Cq (J:s.heap.get? a=some (bV vs 0)) (X:(zk w).In s.heap):(zk w).In (hideAll s.heap [a]):=fun b o e=>zK (X b o e) fun q=>by subst q;cases J.symm.trans (X _ _ e);exact absurd (dR (p:=Value.type "list" =Value.type "tuple") (gh (CF w) _ (k9 e))) (by simp)
theorem AJ {ρ:gJ} {vs:zV} {xs:List Int} (I:IntsAre vs xs):aO ρ h (xs.map .int) vs:=by
 induction I with
 |nil=>exact .nil
 |cons n t _ ih=>exact .cons (.int n t) ih
theorem top_call (X:(zk w).In s.heap) (T:TopRead V0 (looseW V0 LOO) mg mb s.heap) (J:s.heap.get? a=some (bV vs 0)) (hI:IntsAre vs xs) (hx:xs.length≤63)
  (hR:∀h' tk,(∀b o,s.heap.get? b=some o→h'.get? b=some o)→R (.ok (.ret (.bool true))) (sh s h' tk)):codeAny (M0 w) callerA (.call (.ref 759) ⟨[.ref a],[]⟩) R s:=by
 obtain ⟨name,qual,params,body,scope,doc,pm,an,H,ct,fo,K⟩:=zp (CI w);have X':=Cq J X;have T':=Bf J T;have hg:=J;have B:∀j,(cellsFrom j scope.names []).map (·.1)=gx.cv.map nm:=fun j=>by rw [fT,List.map_nil,List.append_nil];exact K.cl
 have U:(gx.cv.map nm).Nodup:=iR K.cn fun x hx y O e=>gW (K.cv x hx).1 (K.cv y O).1 e;have hz:eS gx.ps [DV.aj 0 0]=some [(105,.aj 0 0)]:=rfl;refine codeAny_call_function aD (X _ _ K.ho) K.hd K.co K.gn rfl (codeRec_of X K.cd) (K.bd s [.ref a] rfl _ _ _ _ ?_);refine wpAny_newFunctionEnv_cells K.kd (fun y O=>?_) fun env' he u x=>?_
 ·refine az (List.mem_map.mp (List.of_mem_zip (a:=y.1) (b:=y.2) O).1) fun j S e=>?_
  rw [←e];rcases (K.ps j S).2 with h|⟨h,Z⟩
  ·exact .inl h
  ·refine .inr ⟨h,lookup_some ?_⟩
   rw [B];exact List.mem_map_of_mem Z
 ·subst he
  refine dB x.done fun C tk F N=>?_;subst F;have E:=x.toInCall.keep;refine ⟨T.nolimit.keeps E,codeAny_func ?_⟩;refine az (Cl.news (h₀:=s.heap) (jd _) fun nn cc hm=>⟨x.cell nn cc (lookup_of_mem_nodup (B _▸U) hm),x.above nn cc hm⟩) fun cells i Y=>?_;let W:Wd:={ρ:=fun r k=>if r=0∧k=0 then some a else none,ob:=fun N N=>bV vs 0,dx:=fun N N=>0,od:=fun N N=>bV vs 0,led:=[(a,bV vs 0)],xG:=fun N=>(0,0,false)}
  let σ:ah:=[⟨1,.aq 0 ⟨0,.list (xs.map .int)⟩ .nil⟩,O0,O0,O0,O0,O0,O0,O0,O0,O0,O0,O0]
  let c:Cx:={dp:=302,un:=7,gd:=some [],outer:=[],base:=hideAll s.heap [a],g:=hideAll s.heap [a],L:=s.heap.objs.size,fe:=envOfC qual scope s.heap.objs.size 759 H,ev:=envOfC qual scope s.heap.objs.size 759 H,ex:=[],ml:=fun N=>True}
  have r0:W.ρ 0 0=some a:=by show (if 0=0∧0=0 then some a else none)=some a;rw [bk ⟨rfl,rfl⟩]
  have rl:aO W.ρ C [DV.aj 0 0] [.ref a]:= .cons (.aj r0) .nil;have gC:∀r k cc,aN σ r k=some cc→r=0∧k=0∧cc=⟨0,.list (xs.map .int)⟩:=fun r k cc e=>by
   match r with
   |0=>
    have e:(TC.aq 0 ⟨0,.list (xs.map .int)⟩ .nil).get k=some cc:=e;rw [TC.ay] at e;by_cases q:k=0
    ·rw [bk q] at e;exact ⟨rfl,q,(bw e).symm⟩
    ·rw [aS q] at e;exact aW (show none=some cc from e)
   |1|2|3|4|5|6|7|8|9|10|11=>exact aW (show none=some cc from e)
   |_+12=>exact aW (show none=some cc from e)
  have S1:({c with ex:=cells}:Cx).aC w W σ (Ip gx.cv [(105,.aj 0 0)]) C:=by
   refine ⟨⟨_,⟨x.toInCall.ns,fun b o e=>E b o (of_hideAll _ e),Nat.le_of_eq (hideAll_size _ _)⟩,_,⟨trivial,.inl ⟨rfl,rfl⟩⟩,fun y d e=>?_⟩,fun p D=>?_,fun p D q hq e=>?_,⟨fun r k cc e=>?_,fun r k b e=>?_,fun r k cc e=>?_,fun p D=>?_⟩⟩
   ·rw [gA] at e
    by_cases q:y∈gx.cv
    ·rw [bk q] at e;exact aW e
    ·rw [aS q] at e
     refine p_ (kg (K:=(envOfC qual scope s.heap.objs.size 759 H).kindOf) (m:=fun N=>none) (cm:=fun N=>none) K.nd (fun j S=>(K.ps j S).1) hz rl y d e) fun O v Q Z h3=>?_;have V:scope.names.lookup (nm y)=some .local:=(K.ps y O).2.resolve_right fun z=>q z.2;exact ⟨(K.ps y O).1,v,⟨fun N=>Q V,fun z=>nomatch V.symm.trans z⟩,h3⟩
   ·rcases jx D with D|D
    ·cases nW D
     exact ⟨E _ _ hg,lM (Heap.lt_size hg),hideAll_none _ (.head _)⟩
    ·refine ⟨(i p D).1,(i p D).2.1,?_⟩
     cases q:(hideAll s.heap [a]).get? p.1 with
     |none=>rfl
     |some o=>exact aW ((i p D).2.2.symm.trans (of_hideAll _ q))
   ·cases nW hq
    have Q:=(i p D).2.2;rw [e,hg] at Q;exact aW Q.symm
   ·refine eg (gC r k cc e) fun M G F=>?_;subst M;subst G;subst F
    exact ⟨a,r0,rfl,.head _,vs,0,rfl,AJ hI⟩
   ·by_cases q:r=0∧k=0
    ·refine aZ q fun M G=>?_;subst M;subst G;exact ⟨_,rfl⟩
    ·exact aW ((show none=some b from (aS q).symm.trans e))
   ·refine eg (gC r k cc e) fun M G F=>?_;subst M;subst G;subst F
    exact ⟨1,rfl,Nat.zero_lt_one⟩
   ·cases nW D
    exact fun z=>absurd z.1 (by simp)
  have MW:∀y∈gx.cv,rz W.ρ C (aF [(105,DV.aj 0 0)] y) (bindC (envOfC qual scope s.heap.objs.size 759 H).kindOf ((gx.ps.map nm).zip [.ref a]) (fun N=>none) (nm y)):=fun y O=>by
   have hy':y=106∨y=90:=by
    rcases dP (show y∈[106,90] from O) with h|h
    ·exact .inl h
    ·exact .inr (nW h)
   have e:aF [(105,DV.aj 0 0)] y=none:=by rcases hy' with rfl|rfl<;>rfl
   rw [e];refine gK fun p D q=>az (List.mem_map.mp (List.of_mem_zip (a:=p.1) (b:=p.2) D).1) fun j S e'=>kR hz e (gW (K.ps j S).1 (K.cv y O).1 (e'.trans q)▸S)
  have p:ao (fM w c W σ (sh s C tk) (fun f u=>R (.ok (.ret (match f with| .ret v=>v|_=> .none))) u) (fun e u=>wpAny (M0 w) (callerA.deeper (envOfC qual scope s.heap.objs.size 759 H)) (leaving (envOfC qual scope s.heap.objs.size 759 H) e) (fun N P=>R (.error e) P) (fun e' P=>R (.error e') P) u)) (jj false 0 gx.cv [(105,.aj 0 0)] σ fun ls σ=>run PG 560 false 0 (.ss gx.body) σ ls):=by
   refine FQ (n:=0) (T:= .aq 2 ⟨0,.var none⟩ (.aq 1 ⟨0,.var none⟩ (.aq 0 ⟨0,.list (xs.map .int)⟩ .nil))) (u0:=0) (u1:=0) (u2:=0) (sc:=xs.map .int) ?_ ?_ ?_ (by rw [List.length_map];exact hx) (fun d hd=>by refine az (List.mem_map.mp hd) fun x N F=>?_;subst F;exact ⟨x,rfl⟩) fun σ' BF hc=>?_
   ·rw [TC.ay,aS aD,TC.ay,aS aD,TC.ay,bk rfl]
   ·rw [TC.ay,aS aD,TC.ay,bk rfl]
   ·rw [TC.ay,bk rfl]
   ·intro W' h' tk' f S' G' e
    refine az e fun v G r=>?_;subst G;refine r.pT<|hR h' tk' fun b o e=>az S'.fr fun m' F' N=>?_
    by_cases q:b=a
    ·subst q
     refine iZ (G'.e.cz 0 0 ⟨0,.list (xs.map .int)⟩ rfl) fun c' e1 N e3=>?_;cases hc.symm.trans e1;refine jH (S'.cells.cell 0 0 _ e1) fun a' p1 p2 p3 p4=>?_;cases p1.symm.trans (G'.e.le 0 0 b r0);rw [(e3 rfl).2] at p3;rw [hg] at e;exact (S'.nw _ (dS _ p3)).1.trans e
    ·exact F'.keep b o (zK e q)
  refine kj (c:=c) Y (B _) K.cv K.cn (by rw [jF Y];exact List.pairwise_map.mpr x.apart) (fun p D e=>(i p D).2.1 e.symm) (fun p D=>lookup_of_mem_nodup (B _▸U) D) S1 MW p fun Ae σ2 W2 S2 g2 p=>?_;have o2:c.Ok w 560:=⟨⟨⟨_,below_caller _⟩,X',⟨_,_,T'⟩,rfl,K.kd,fun e he=>nomatch he⟩,K.kd,rfl,rfl,(show 302+560<1000 by decide),(show 7+10*560+300<9900 by decide),fun N=>rfl⟩
  exact (qU 560 false 0).ss (c:=c) (s:=sh s C tk) (k:=depth) o2 rfl ⟨rfl,fun N=>trivial⟩ K.tr S2 (fM.then (s:=sh s C tk) p g2)
end
end
theorem tC {P:Params} {h:Heap}:∀{xs:List Int} {vs:List Value},WellAll P h vs (ofPys (xs.map .int))→IntsAre vs xs
 |[],_,w=>by cases w;exact .nil
 |x::xs,_,w=>by
  cases w with
  |cons a b=>cases a;exact .cons _ _ (tC b)
theorem well_ints {P:Params} {h:Heap} {a:Addr} {xs:List Int} (w:Well P h (.ref a) (ofPy (.list (xs.map .int)))):∃vs,h.get? a=some (bV vs 0)∧IntsAre vs xs:=by
 cases w with
 |list a b=>exact ⟨_,a,tC b⟩
end Mine
theorem PySem.Challenge.cw_xm0313_01_holds : PySem.Challenge.rw_xm0313_01.Holds := by
  refine holds_law Mine.said1 fun said => ?_
  refine holds_open (q := Mine.V0) (loose := Mine.LOO) (Xt := Mine.Xt0) (XP := XL Mine.V0 []) (Yf := Hook.obs Mine.HK) (Ya := Hook.val Mine.HK) (YP := Hook.says Mine.HK) (N := 6000) Mine.left0 (Hook.of Mine.HK) (Hook.keeps Mine.HK) (fun s e => xl_of s (Bool.and_eq_true_iff.mp e).1) XL.keeps (by rfl) (by rfl) (by rfl) (fun s e => recFacts_of (Bool.and_eq_true_iff.mp e).2) (by rfl) (by first | assumption | decide +kernel) (by decide +kernel) ⟨rfl, rfl, rfl, rfl, rfl, by decide +kernel⟩ ?hw ?hc
  case hw => w_witness2
  intro w Q O mg mb G Y d o pm cd doc dV kV ho hd L c C hg args vals as A E H F I
  have KX := kIn_of Y
  refine Ground.open G ?_
  intro T B D TE TW
  have K : d = 759 := by
    have e := mg_of KX T.g (n := Str.ofString "law") (v := .ref 759) (by kernel_rfl)
    exact Value.ref.inj (Option.some.inj (C.symm.trans e))
  subst K
  clear ho hd L c C B D TE TW G
  wrow_args A E H F I
  refine enter_call ?_
  refine codeAny_mono ?_ (fun _ _ g => GoodW.toG g)
  rename_i xs hs hy U R S l4 l3 a vs l0 hL ra wl r0 hI hr Z V
  obtain ⟨vs', J, M⟩ := Mine.well_ints wl
  exact Mine.top_call KX (topRead_of T) J M (by omega) fun h' tk hk => ⟨.inl ⟨_, .bool true, [], rfl, raisesW_false (by wrow_none_raised), .bool true, postW_of (by wrow_shape) (by wtm_val) (by w_fin), unshared_nil⟩, hk, rfl, hg⟩
