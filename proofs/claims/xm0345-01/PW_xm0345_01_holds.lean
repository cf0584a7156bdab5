import PyProof.Rows.All
import Wide.All
import OpenK.AllK
import Wide.FinOn
import OpenK.ZHead
import Open.Tops
import Lean
import PySem.Challenge.RW_xm0345_01
set_option linter.all false
set_option maxRecDepth 100000
set_option maxHeartbeats 0
set_option Elab.async false
set_option genSizeOfSpec false
set_option genInjectivity true
open PySem PySem.W PyProof.Rows PySem.Calls
namespace Mine
inductive SI where
 | n (k c:Nat) | r (k c m:Nat) (a b:Int) | p (k c m:Nat) (xs:List Int) | raw (k:Nat)
inductive V where
 | none | bool (b:Bool) | int (i:Int) | str (k:Nat) | dyn | ref (a:Nat) | glb (g:Nat) | si (e:SI) | kd (j:Nat) | bad | ub
 | tn | tc (x r:V)
inductive X where
 | none | bool (b:Bool) | int (i:Int) | str (k:Nat)
 | loc (x:Nat) | glb (g:Nat)
 | attr (e:X) (k:Nat)
 | bin (op:Nat) (a b:X) | not (e:X) | neg (e:X)
 | and (r:X) | or (r:X) | ande (a:X) | andc (a r:X) | ore (a:X) | orc (a r:X)
 | cmp (op:Nat) (a b:X) | chain (o1 o2:Nat) (a b c:X)
 | ite (c a b:X)
 | tup (es:X) | lst (es:X) | dct (ks vs:X)
 | sub (a i:X) | slice (a lo hi st:X)
 | call (f as:X) | meth (o:X) (k:Nat) (as:X)
 | comp (elt:X) (x:Nat) (it cond:X)
 | nil | cons (e r:X)
 | tname (x:Nat) | tattr (e:X) (k:Nat) | tsub (e i:X) | ttup (xs:List Nat)
 | asgn (t e:X) | aug (x op:Nat) (e:X) | expr (e:X) | ret (e:X)
 | if_ (c a b:X) | for_ (t it body:X) | pass | dead
 | snil | scons (s r:X)
structure F where
 np:Nat
 nl:Nat
 body:X
inductive G where
 | bi (k:Nat) | cls (c:Nat) | fn (f:Nat) | val (v:V) | tab (es:List (V×V))
inductive Tr (α:Type) where
 | nil | node (v:Option α) (l r:Tr α)
inductive O where
 | list (n:Nat) (t:Tr V) | dict (es:List (V×V)) | inst (c d:Nat) | ns (es:List (Nat×V))
 | rng (lo hi:Int) | kt (st:Nat)
section
open Mine.X renaming none→xn,bool→xb,int→i,str→st,loc→l,glb→g,attr→a,bin→b,not→nt,neg→ng,and→xa,or→xo,ande→ae,andc→ac,ore→oe,orc→oc,cmp→p,chain→h,ite→it,tup→u,lst→ls,dct→d,sub→k,slice→sl,call→f,meth→m,comp→cp,nil→n,cons→c,tname→t,tattr→ta,tsub→ts,ttup→tt,asgn→q,aug→ag,expr→e,ret→r,if_→y,for_→w,pass→ps,dead→z,snil→o,scons→s
noncomputable def f0:F:=⟨1,3,(s (q (ta (l 0) 5) (ls n)) (s (q (ta (l 0) 4) (d n n)) (s (q (ta (l 0) 3) (ls n)) (s (q (ta (l 0) 2) (ls n)) (s (q (ta (l 0) 0) (ls n)) (s (w (t 1) (f (g 0) (c (g 1) n)) (s (q (t 2) (u (c (g 2) (c (l 1) n)))) (s (e (m (a (l 0) 5) 1 (c (l 2) n))) (s (q (ts (a (l 0) 4) (l 2)) (l 1)) (s (e (m (a (l 0) 3) 1 (c (i 1) n))) (s (e (m (a (l 0) 2) 1 (c (i 1) n))) (s (e (m (a (l 0) 0) 1 (c (i 0) n))) o))))))) o))))))⟩
noncomputable def f1:F:=⟨2,2,(s (y (xo (oc (p 2 (l 1) (i 0)) (oe (p 5 (l 1) (f (g 3) (c (a (l 0) 5) n)))))) (s z o) o) (s (r (k (a (l 0) 5) (l 1))) o))⟩
noncomputable def f2:F:=⟨2,9,(s (q (t 7) (m (a (l 0) 4) 6 (c (l 1) (c (ng (i 1)) n)))) (s (y (p 5 (l 7) (i 0)) (s (r (l 7)) o) o) (s (e (f (g 10) (c (l 0) (c (l 1) n)))) (s (q (t 3) (i 1)) (s (q (t 5) (i 1)) (s (q (t 6) (i 0)) (s (y (xo (oc (p 0 (k (l 1) (i 0)) (g 9)) (oe (p 0 (k (l 1) (i 0)) (g 8))))) (s (q (t 6) (i 1)) o) o) (s (q (t 4) (f (g 7) (c (k (l 1) (i 0)) n))) (s (w (t 2) (f (g 6) (c (l 1) n)) (s (y (p 4 (b 0 (k (a (l 0) 3) (l 2)) (l 4)) (l 3)) (s (q (t 3) (b 0 (k (a (l 0) 3) (l 2)) (l 4))) o) o) (s (ag 5 0 (k (a (l 0) 2) (l 2))) (s (y (p 0 (k (a (l 0) 0) (l 2)) (i 1)) (s z o) o) o)))) (s (y (p 4 (l 3) (g 5)) (s z o) o) (s (y (p 4 (l 5) (g 4)) (s z o) o) (s (q (t 8) (f (g 3) (c (a (l 0) 5) n))) (s (e (m (a (l 0) 5) 1 (c (l 1) n))) (s (q (ts (a (l 0) 4) (l 1)) (l 8)) (s (e (m (a (l 0) 3) 1 (c (l 3) n))) (s (e (m (a (l 0) 2) 1 (c (l 5) n))) (s (e (m (a (l 0) 0) 1 (c (l 6) n))) (s (r (l 8)) o))))))))))))))))))⟩
noncomputable def f3:F:=⟨1,2,(s (q (t 1) (k (l 0) (i 0))) (s (y (xo (oc (p 0 (l 1) (g 18)) (oe (p 0 (l 1) (g 17))))) (s (r (k (l 0) (i 2))) o) o) (s (y (xo (oc (p 0 (l 1) (g 16)) (oc (p 0 (l 1) (g 15)) (oc (p 0 (l 1) (g 14)) (oc (p 0 (l 1) (g 13)) (oe (p 0 (l 1) (g 12)))))))) (s (r (u (c (k (l 0) (i 1)) n))) o) o) (s (y (p 0 (l 1) (g 11)) (s z o) o) (s (r (u n)) o)))))⟩
noncomputable def f4:F:=⟨1,1,(s (y (xo (oc (p 0 (l 0) (g 18)) (oc (p 0 (l 0) (g 17)) (oe (p 0 (l 0) (g 16)))))) (s (r (i 1)) o) o) (s (r (i 0)) o))⟩
noncomputable def f5:F:=⟨1,1,(s (y (xo (oc (p 0 (l 0) (g 18)) (oe (p 0 (l 0) (g 17))))) (s (r (i 3)) o) o) (s (y (p 0 (l 0) (g 11)) (s z o) o) (s (r (i 2)) o)))⟩
noncomputable def f6:F:=⟨2,4,(s (y (xo (oc (p 0 (f (g 3) (c (l 1) n)) (i 0)) (oc (p 3 (k (l 1) (i 0)) (g 2)) (oe (p 4 (k (l 1) (i 0)) (g 12)))))) (s z o) o) (s (q (t 3) (k (l 1) (i 0))) (s (y (p 1 (f (g 3) (c (l 1) n)) (f (g 21) (c (l 3) n))) (s z o) o) (s (w (t 2) (f (g 6) (c (l 1) n)) (s (e (m (l 0) 7 (c (l 2) n))) o)) (s (y (xo (oc (p 0 (l 3) (g 18)) (oe (p 0 (l 3) (g 17))))) (s (e (f (g 19) (c (l 0) (c (l 1) n)))) o) (s (y (xo (oc (p 0 (l 3) (g 9)) (oe (p 0 (l 3) (g 8))))) (s (y (p 2 (k (l 1) (i 1)) (i 0)) (s z o) o) o) (s (y (p 0 (l 3) (g 11)) (s z (s z o)) (s (y (p 0 (l 3) (g 14)) (s z o) (s (y (nt (f (g 20) (c (l 0) (c (k (l 1) (i 1)) n)))) (s z o) o) o)) o)) o)) o)) o)))))⟩
noncomputable def f7:F:=⟨2,2,(s (y (xo (oc (p 3 (k (l 1) (i 1)) (i 0)) (oe (p 6 (k (l 1) (i 1)) (g 23))))) (s z o) o) (s (e (f (g 22) (c (l 0) (c (k (l 1) (i 2)) n)))) o))⟩
noncomputable def f8:F:=⟨2,3,(s (w (t 2) (l 1) (s (y (nt (f (g 20) (c (l 0) (c (l 2) n)))) (s z o) o) o)) o)⟩
noncomputable def f9:F:=⟨2,3,(s (y (xo (oc (p 0 (l 1) (g 25)) (oe (p 0 (l 1) (g 24))))) (s z o) o) (s (q (t 2) (k (m (l 0) 7 (c (l 1) n)) (i 0))) (s (r (xo (oc (p 3 (l 2) (g 16)) (oc (p 0 (l 2) (g 9)) (oe (p 0 (l 2) (g 8))))))) o)))⟩
noncomputable def f10:F:=⟨3,3,(s (y (p 6 (l 1) (g 23)) (s z o) o) (s (r (m (l 0) 8 (c (u (c (g 18) (c (l 1) (c (l 2) n)))) n))) o))⟩
noncomputable def f11:F:=⟨2,2,(s (r (m (l 0) 8 (c (u (c (g 16) (c (l 1) n))) n))) o)⟩
noncomputable def f12:F:=⟨2,2,(s (r (m (l 0) 8 (c (u (c (g 15) (c (l 1) n))) n))) o)⟩
noncomputable def f13:F:=⟨2,2,(s (r (m (l 0) 8 (c (u (c (g 9) (c (l 1) n))) n))) o)⟩
noncomputable def f14:F:=⟨1,1,(s (r (p 0 (m (g 26) 6 (c (l 0) (c (ng (i 1)) n))) (g 27))) o)⟩
noncomputable def f15:F:=⟨8,9,(s (q (ta (l 0) 27) (l 1)) (s (q (ta (l 0) 26) (l 2)) (s (q (ta (l 0) 25) (l 3)) (s (q (ta (l 0) 24) (l 4)) (s (q (ta (l 0) 23) (l 5)) (s (q (ta (l 0) 22) (ls n)) (s (q (ta (l 0) 21) (ls n)) (s (q (ta (l 0) 20) (ls n)) (s (q (ta (l 0) 19) (ls n)) (s (w (t 8) (l 6) (s z (s z (s z o)))) (s (q (ta (l 0) 18) (ls n)) (s (q (ta (l 0) 17) (ls n)) (s (q (ta (l 0) 16) (l 7)) (s (q (ta (l 0) 15) (i 0)) (s (q (ta (l 0) 14) (ng (i 1))) (s (q (ta (l 0) 13) (ls n)) (s (q (ta (l 0) 12) (ls n)) (s (q (ta (l 0) 11) (ls n)) (s (q (ta (l 0) 10) (i 0)) (s (q (ta (l 0) 9) (i 0)) o))))))))))))))))))))⟩
noncomputable def f16:F:=⟨7,7,(s (q (ta (l 0) 32) (l 1)) (s (q (ta (l 0) 31) (l 2)) (s (q (ta (l 0) 26) (l 3)) (s (q (ta (l 0) 30) (l 4)) (s (q (ta (l 0) 29) (l 5)) (s (q (ta (l 0) 24) (l 6)) (s (q (ta (l 0) 28) xn) o)))))))⟩
noncomputable def f17:F:=⟨8,8,(s (q (ta (l 0) 41) (l 1)) (s (q (ta (l 0) 31) (l 2)) (s (q (ta (l 0) 26) (l 3)) (s (q (ta (l 0) 29) (l 4)) (s (q (ta (l 0) 24) (l 5)) (s (q (ta (l 0) 40) (i 0)) (s (q (ta (l 0) 39) (ls n)) (s (q (ta (l 0) 38) (ls n)) (s (q (ta (l 0) 37) (l 6)) (s (q (ta (l 0) 21) (f (g 29) (c (l 7) n))) (s (q (ta (l 0) 36) (f (g 28) (c (f (g 3) (c (l 7) n)) n))) (s (q (ta (l 0) 35) (b 2 (u (c (i 0) n)) (f (g 3) (c (l 7) n)))) (s (q (ta (l 0) 34) xn) (s (q (ta (l 0) 33) (i 0)) o))))))))))))))⟩
noncomputable def f18:F:=⟨5,5,(s (q (ta (l 0) 45) (l 1)) (s (q (ta (l 0) 44) (l 2)) (s (q (ta (l 0) 43) (l 3)) (s (q (ta (l 0) 42) (l 4)) o))))⟩
noncomputable def f19:F:=⟨1,1,(s (q (ta (l 0) 51) (f (g 30) n)) (s (q (ta (l 0) 50) (ls (c xn n))) (s (q (ta (l 0) 49) (ls (c xn n))) (s (q (ta (l 0) 17) (ls (c xn n))) (s (q (ta (l 0) 48) (d n n)) (s (q (ta (l 0) 47) (ls n)) (s (q (ta (l 0) 46) (i 0)) o)))))))⟩
noncomputable def f20:F:=⟨1,3,(s (q (t 2) (ls n)) (s (w (t 1) (f (g 0) (c (l 0) n)) (s (e (m (l 2) 1 (c (b 0 (st 52) (f (g 31) (c (l 1) n))) n))) o)) (s (r (f (g 29) (c (l 2) n))) o)))⟩
noncomputable def f21:F:=⟨3,4,(s (q (t 3) (k (a (l 0) 50) (l 1))) (s (y (p 7 (l 2) (a (l 3) 22)) (s (e (m (a (l 3) 22) 1 (c (l 2) n))) o) o) o))⟩
noncomputable def f22:F:=⟨7,8,(s (y (xo (oc (p 3 (l 1) (i 0)) (oe (p 4 (l 1) (g 33))))) (s z o) o) (s (q (t 7) (k (a (l 0) 49) (l 1))) (s (y (p 8 (l 7) xn) (s (e (m (a (k (a (l 0) 50) (l 2)) 18) 1 (c (l 1) n))) o) (s (y (p 1 (a (l 7) 31) (l 2)) (s z o) o) o)) (s (q (ts (a (l 0) 49) (l 1)) (f (g 32) (c (l 1) (c (l 2) (c (l 3) (c (l 4) (c (l 5) (c (l 6) n)))))))) (s (r (l 1)) o)))))⟩
noncomputable def f23:F:=⟨1,1,(s (y (xa (ac (p 1 (b 5 (l 0) (b 0 (g 35) (g 36))) (i 0)) (ae (p 1 (b 5 (l 0) (g 34)) (i 0))))) (s (r (b 1 (l 0) (g 34))) o) o) (s (r (l 0)) o))⟩
noncomputable def f24:F:=⟨8,10,(s (y (xo (oc (p 3 (l 1) (i 0)) (oe (p 4 (l 1) (g 40))))) (s z o) o) (s (q (t 9) (k (a (l 0) 17) (l 1))) (s (y (p 8 (l 9) xn) (s (e (m (a (k (a (l 0) 50) (l 2)) 17) 1 (c (l 1) n))) o) (s (y (p 1 (a (l 9) 31) (l 2)) (s z o) o) o)) (s (q (ts (a (l 0) 17) (l 1)) (f (g 38) (c (l 1) (c (l 2) (c (l 3) (c (l 4) (c (f (g 39) (c (l 5) n)) (c (l 6) (c (l 7) n))))))))) (s (q (t 8) (k (a (l 0) 50) (l 2))) (s (y (p 0 (a (l 8) 15) (l 1)) (s z o) o) (s (y (p 0 (a (l 8) 10) (l 1)) (s z o) o) (s (e (f (g 37) (c (l 0) (c (l 1) n)))) (s (r (l 1)) o)))))))))⟩
noncomputable def f25:F:=⟨2,4,(s (q (t 2) (k (a (l 0) 17) (l 1))) (s (q (t 3) (k (a (l 0) 50) (a (l 2) 31))) (s (y (p 1 (b 5 (a (l 2) 24) (g 36)) (i 0)) (s z o) o) (s (y (xa (ac (p 0 (a (l 2) 26) (st 53)) (ac (f (g 41) (c (l 2) n)) (ac (p 0 (f (g 3) (c (a (l 2) 21) n)) (i 0)) (ae (p 0 (a (l 2) 37) (g 25))))))) (s z o) o) o))))⟩
noncomputable def f26:F:=⟨6,10,(s (q (t 8) (ls n)) (s (w (t 6) (l 4) (s (e (m (l 8) 1 (c (l 6) n))) o)) (s (q (t 9) (ls n)) (s (w (t 7) (l 5) (s z o)) (s (q (ta (k (a (l 0) 17) (l 1)) 34) (f (g 42) (c (f (g 29) (c (l 2) n)) (c (l 3) (c (l 8) (c (l 9) n)))))) o)))))⟩
noncomputable def f27:F:=⟨3,3,(s (q (ta (k (a (l 0) 17) (l 1)) 33) (l 2)) o)⟩
noncomputable def f28:F:=⟨2,2,(s (y (p 7 (l 1) (l 0)) (s (e (m (l 0) 1 (c (l 1) n))) o) o) o)⟩
noncomputable def f29:F:=⟨7,7,(s (e (f (g 43) (c (a (k (a (l 0) 50) (l 1)) 12) (c (u (c (l 2) (c (l 3) (c (l 4) (c (l 5) (c (l 6) n)))))) n)))) o)⟩
noncomputable def f30:F:=⟨2,2,(s (r (b 0 (b 0 (g 44) (b 2 (i 3) (b 1 (l 0) (g 45)))) (l 1))) o)⟩
noncomputable def f31:F:=⟨1,1,(s z o)⟩
noncomputable def f32:F:=⟨1,6,(s (q (t 4) (d n n)) (s (q (t 5) (i 0)) (s (w (tt [1,2]) (l 0) (s (y (p 0 (l 1) (g 46)) (s (q (ts (l 4) (l 2)) (l 5)) o) (s (ag 5 0 (i 1)) o)) o)) (s (q (t 3) (ls n)) (s (w (tt [1,2]) (l 0) (s (y (p 1 (l 1) (g 46)) (s (y (f (g 47) (c (l 1) n)) (s (e (m (l 3) 1 (c (u (c (l 1) (c (k (l 4) (l 2)) n))) n))) o) (s (e (m (l 3) 1 (c (u (c (l 1) (c (l 2) n))) n))) o)) o) o) o)) (s (r (l 3)) o))))))⟩
noncomputable def f33:F:=⟨9,9,(s (e (f (g 50) (c (l 0) (c (l 1) (c (l 2) (c (l 3) (c (g 51) (c (l 4) (c (l 5) (c (l 6) n)))))))))) (s (e (f (g 48) (c (l 0) (c (l 1) (c (u n) (c (l 7) (c (f (g 49) (c (l 8) n)) (c (ls n) n)))))))) o))⟩
noncomputable def f34:F:=⟨8,8,(s (e (f (g 50) (c (l 0) (c (l 1) (c (l 2) (c (l 3) (c (g 51) (c (l 4) (c (l 5) (c (l 6) n)))))))))) (s (e (f (g 52) (c (l 0) (c (l 1) (c (l 7) n))))) o))⟩
noncomputable def f35:F:=⟨7,7,(s (e (f (g 50) (c (l 0) (c (l 1) (c (l 2) (c (l 3) (c (g 54) (c (g 53) (c (l 4) (c (l 5) n)))))))))) (s (e (f (g 52) (c (l 0) (c (l 1) (c (l 6) n))))) o))⟩
noncomputable def f36:F:=⟨7,8,(s (w (t 7) (a (k (a (l 0) 50) (l 1)) 12) (s (y (xa (ac (p 0 (k (l 7) (i 0)) (l 2)) (ae (p 0 (k (l 7) (i 2)) (l 4))))) (s (r xn) o) o) o)) (s (e (f (g 55) (c (l 0) (c (l 1) (c (l 2) (c (l 3) (c (l 4) (c (l 5) (c (l 6) n))))))))) o))⟩
noncomputable def f37:F:=⟨2,2,(s (r (f (g 56) (c (a (l 0) 51) (c (l 1) (c (u n) n))))) o)⟩
noncomputable def f38:F:=⟨2,2,(s (r (u (c (g 57) (c (u (c (l 0) (c (l 1) (c (u n) n)))) n)))) o)⟩
noncomputable def f39:F:=⟨2,2,(s (r (u (c (g 58) (c (u (c (l 0) (c (l 1) (c (u n) n)))) n)))) o)⟩
noncomputable def f40:F:=⟨2,2,(s (r (ls (c (u (c (g 63) (c (i 0) n))) (c (u (c (g 63) (c (i 1) n))) (c (f (g 62) (c (l 0) (c (l 1) n))) (c (u (c (g 61) (c (i 0) n))) (c (u (c (g 60) (c (i 0) n))) (c (u (c (g 59) (c (i 0) n))) n)))))))) o)⟩
noncomputable def f41:F:=⟨1,1,(s (r (ls (c (u (c (g 63) (c (i 0) n))) (c (u (c (l 0) (c (i 0) n))) (c (u (c (g 63) (c (i 1) n))) (c (u (c (g 66) (c (i 0) n))) (c (u (c (g 63) (c (i 0) n))) (c (u (c (l 0) (c (i 0) n))) (c (u (c (g 63) (c (i 1) n))) (c (u (c (g 65) (c (i 0) n))) (c (u (c (g 64) (c (i 0) n))) (c (u (c (g 59) (c (i 0) n))) n)))))))))))) o)⟩
noncomputable def f42:F:=⟨2,4,(s (q (t 2) (f (g 74) (c (l 1) (c (i 0) n)))) (s (q (t 3) (b 0 (g 73) (b 2 (i 3) (b 1 (l 1) (g 45))))) (s (e (f (g 67) (c (l 0) (c (l 2) (c (l 1) (c (st 56) (c (g 69) (c (g 72) (c (u n) (c (l 3) n)))))))))) (s (e (f (g 67) (c (l 0) (c (b 0 (l 2) (i 1)) (c (l 1) (c (st 55) (c (g 69) (c (g 71) (c (u (c (g 70) n)) (c (b 0 (l 3) (i 1)) n)))))))))) (s (e (f (g 67) (c (l 0) (c (b 0 (l 2) (i 2)) (c (l 1) (c (st 54) (c (g 69) (c (g 68) (c (u n) (c (b 0 (l 3) (i 2)) n)))))))))) o)))))⟩
noncomputable def f43:F:=⟨1,2,(s (w (t 1) (f (g 0) (c (g 45) (c (b 0 (g 87) (i 1)) n))) (s (e (f (g 88) (c (l 0) (c (l 1) n)))) o)) (s (e (f (g 80) (c (l 0) (c (g 86) (c (g 79) (c (st 57) (c (g 83) (c (g 68) (c (u (c (g 68) n)) (c (i 3) (c (f (g 81) (c (g 85) n)) n))))))))))) (s (e (f (g 80) (c (l 0) (c (g 84) (c (g 78) (c (st 57) (c (g 83) (c (g 68) (c (u (c (g 76) n)) (c (i 3) (c (f (g 81) (c (g 82) n)) n))))))))))) (s (e (f (g 75) (c (l 0) (c (g 79) (c (f (g 56) (c (a (l 0) 51) (c (g 77) (c (u (c (g 68) n)) n)))) n))))) (s (e (f (g 75) (c (l 0) (c (g 78) (c (f (g 56) (c (a (l 0) 51) (c (g 77) (c (u (c (g 76) n)) n)))) n))))) o)))))⟩
noncomputable def f44:F:=⟨5,5,(s (e (f (g 67) (c (l 0) (c (l 2) (c (l 1) (c (st 59) (c (b 0 (g 35) (g 34)) (c (g 25) (c (u (c (g 70) (c (g 92) n))) (c (g 91) n)))))))))) (s (e (f (g 67) (c (l 0) (c (b 0 (l 2) (i 1)) (c (l 1) (c (st 58) (c (g 90) (c (l 3) (c (l 4) (c (g 89) n)))))))))) o))⟩
noncomputable def f45:F:=⟨1,4,(s (q (t 1) (f (g 125) (c (l 0) (c (g 108) n)))) (s (q (t 2) (f (g 96) (c (a (l 0) 51) (c (i 0) n)))) (s (q (t 3) (f (g 96) (c (a (l 0) 51) (c (i 1) n)))) (s (e (f (g 120) (c (l 0) (c (g 124) (c (g 108) (c (st 66) (c (g 70) (c (g 54) (c (i 0) n))))))))) (s (e (f (g 120) (c (l 0) (c (g 123) (c (g 108) (c (st 65) (c (g 92) (c (g 54) (c (i 0) n))))))))) (s (e (f (g 120) (c (l 0) (c (g 122) (c (g 108) (c (st 64) (c (f (g 121) (c (a (l 0) 51) (c (l 1) n))) (c (g 54) (c (i 0) n))))))))) (s (e (f (g 67) (c (l 0) (c (g 119) (c (g 108) (c (st 63) (c (g 53) (c (l 1) (c (u (c (l 1) (c (l 1) n))) (c (g 118) n)))))))))) (s (e (f (g 67) (c (l 0) (c (g 117) (c (g 108) (c (st 62) (c (g 53) (c (l 1) (c (u (c (l 1) (c (l 1) n))) (c (g 116) n)))))))))) (s (e (f (g 67) (c (l 0) (c (g 113) (c (g 108) (c (st 61) (c (g 114) (c (g 71) (c (u (c (l 1) (c (l 1) n))) (c (g 110) n)))))))))) (s (e (f (g 80) (c (l 0) (c (g 115) (c (g 108) (c (st 60) (c (g 114) (c (g 71) (c (u (c (l 1) (c (l 1) n))) (c (i 2) (c (f (g 112) (c (l 1) (c (g 113) n))) n))))))))))) (s (e (f (g 67) (c (l 0) (c (g 111) (c (g 108) (c (st 55) (c (g 69) (c (g 71) (c (u (c (g 70) n)) (c (g 110) n)))))))))) (s (e (f (g 67) (c (l 0) (c (g 109) (c (g 108) (c (st 54) (c (g 69) (c (g 68) (c (u n) (c (g 107) n)))))))))) (s (e (f (g 93) (c (l 0) (c (g 106) (c (g 105) (c (g 25) (c (u n) n))))))) (s (e (f (g 93) (c (l 0) (c (g 104) (c (g 103) (c (g 25) (c (u (c (l 2) n)) n))))))) (s (e (f (g 93) (c (l 0) (c (g 102) (c (g 101) (c (l 2) (c (u n) n))))))) (s (e (f (g 93) (c (l 0) (c (g 100) (c (g 99) (c (l 3) (c (u (c (l 2) n)) n))))))) (s (e (f (g 93) (c (l 0) (c (g 98) (c (g 97) (c (f (g 96) (c (a (l 0) 51) (c (i 2) n))) (c (u (c (l 2) (c (l 3) n))) n))))))) (s (e (f (g 93) (c (l 0) (c (g 95) (c (g 94) (c (g 71) (c (u (c (l 2) n)) n))))))) o))))))))))))))))))⟩
noncomputable def f46:F:=⟨1,3,(s (q (t 1) (st 67)) (s (q (t 2) (f (g 125) (c (l 0) (c (g 128) n)))) (s (e (f (g 67) (c (l 0) (c (g 134) (c (g 128) (c (l 1) (c (g 53) (c (g 25) (c (u (c (g 72) n)) (c (g 143) n)))))))))) (s (e (f (g 67) (c (l 0) (c (g 142) (c (g 128) (c (l 1) (c (g 53) (c (g 25) (c (u (c (g 68) n)) (c (g 141) n)))))))))) (s (e (f (g 80) (c (l 0) (c (g 140) (c (g 128) (c (l 1) (c (g 53) (c (g 25) (c (u (c (g 70) n)) (c (i 1) (c (ls (c (u (c (g 63) (c (i 0) n))) (c (u (c (g 139) (c (i 1) n))) (c (u (c (g 138) (c (i 0) n))) (c (u (c (g 137) (c (i 2) n))) (c (u (c (g 46) (c (i 1) n))) (c (u (c (g 63) (c (i 0) n))) (c (f (g 135) (c (g 70) (c (g 136) n))) (c (u (c (g 46) (c (i 2) n))) (c (f (g 62) (c (l 2) (c (g 134) n))) (c (u (c (g 59) (c (i 0) n))) n))))))))))) n))))))))))) (s (e (f (g 67) (c (l 0) (c (g 133) (c (g 128) (c (l 1) (c (g 53) (c (g 25) (c (u (c (g 71) n)) (c (g 132) n)))))))))) (s (e (f (g 67) (c (l 0) (c (g 131) (c (g 128) (c (l 1) (c (g 53) (c (g 25) (c (u (c (g 76) n)) (c (g 130) n)))))))))) (s (e (f (g 67) (c (l 0) (c (g 129) (c (g 128) (c (l 1) (c (g 53) (c (g 25) (c (u (c (g 127) n)) (c (g 126) n)))))))))) o))))))))⟩
noncomputable def f47:F:=⟨1,5,(s (q (t 1) (f (g 125) (c (l 0) (c (g 146) n)))) (s (q (t 2) (u (c (l 1) (c (g 156) n)))) (s (q (t 3) (ls (c (u (c (g 63) (c (i 0) n))) (c (u (c (g 157) (c (l 2) n))) (c (f (g 62) (c (l 1) (c (g 154) n))) n))))) (s (e (f (g 120) (c (l 0) (c (g 156) (c (g 146) (c (st 74) (c (g 68) (c (g 54) (c (i 0) n))))))))) (s (e (f (g 152) (c (l 0) (c (g 149) (c (g 146) (c (st 73) (c (g 68) (c (u (c (g 70) (c (g 71) n))) (c (g 155) n))))))))) (s (e (f (g 152) (c (l 0) (c (g 154) (c (g 146) (c (st 72) (c (g 70) (c (u (c (g 68) n)) (c (g 153) n))))))))) (s (e (f (g 80) (c (l 0) (c (g 151) (c (g 146) (c (st 59) (c (b 0 (g 35) (g 34)) (c (g 25) (c (u (c (g 70) (c (g 71) n))) (c (i 3) (c (ls (c (u (c (g 63) (c (i 0) n))) (c (f (g 62) (c (g 70) (c (g 150) n))) (c (u (c (g 63) (c (i 0) n))) (c (u (c (g 63) (c (i 1) n))) (c (u (c (g 63) (c (i 2) n))) (c (f (g 62) (c (l 1) (c (g 149) n))) (c (u (c (g 148) (c (l 2) n))) (c (u (c (g 59) (c (i 0) n))) n))))))))) n))))))))))) (s (e (f (g 80) (c (l 0) (c (g 147) (c (g 146) (c (st 71) (c (g 34) (c (g 70) (c (u n) (c (i 1) (c (b 0 (l 3) (ls (c (u (c (g 59) (c (i 0) n))) n))) n))))))))))) (s (q (t 4) (ls (c (u (c (g 138) (c (i 0) n))) (c (u (c (g 60) (c (i 0) n))) (c (u (c (g 61) (c (i 0) n))) (c (u (c (g 60) (c (i 0) n))) (c (u (c (g 59) (c (i 0) n))) n))))))) (s (e (f (g 80) (c (l 0) (c (g 145) (c (g 146) (c (st 70) (c (g 34) (c (g 71) (c (u n) (c (i 2) (c (b 0 (l 3) (l 4)) n))))))))))) (s (e (f (g 144) (c (l 0) (c (g 146) (c (st 69) (c (g 70) (c (g 147) (c (i 0) (c (u n) n))))))))) (s (e (f (g 144) (c (l 0) (c (g 146) (c (st 68) (c (g 71) (c (g 145) (c (i 0) (c (u n) n))))))))) o))))))))))))⟩
noncomputable def f48:F:=⟨1,1,(s (e (f (g 67) (c (l 0) (c (g 170) (c (g 160) (c (st 79) (c (g 53) (c (g 25) (c (u n) (c (g 169) n)))))))))) (s (e (f (g 67) (c (l 0) (c (g 168) (c (g 160) (c (st 79) (c (g 53) (c (g 25) (c (u (c (g 68) n)) (c (g 167) n)))))))))) (s (e (f (g 67) (c (l 0) (c (g 166) (c (g 160) (c (st 78) (c (g 53) (c (g 25) (c (u (c (g 70) n)) (c (g 165) n)))))))))) (s (e (f (g 67) (c (l 0) (c (g 164) (c (g 160) (c (st 77) (c (g 53) (c (g 25) (c (u (c (g 70) n)) (c (g 163) n)))))))))) (s (e (f (g 80) (c (l 0) (c (g 162) (c (g 160) (c (st 76) (c (g 53) (c (g 25) (c (u (c (g 70) n)) (c (i 0) (c (ls (c (u (c (g 59) (c (i 0) n))) n)) n))))))))))) (s (e (f (g 67) (c (l 0) (c (g 161) (c (g 160) (c (st 75) (c (g 53) (c (g 25) (c (u n) (c (g 159) n)))))))))) (s (e (f (g 158) (c (l 0) n))) o)))))))⟩
noncomputable def f49:F:=⟨1,4,(s (q (t 1) (f (g 125) (c (l 0) (c (g 172) n)))) (s (q (t 2) (u (c (l 1) (c (g 180) n)))) (s (e (f (g 120) (c (l 0) (c (g 180) (c (g 172) (c (st 30) (c (g 68) (c (g 54) (c (i 0) n))))))))) (s (q (t 3) (ls (c (u (c (g 63) (c (i 0) n))) (c (u (c (g 179) (c (i 1) n))) (c (u (c (g 63) (c (i 1) n))) (c (u (c (g 179) (c (i 1) n))) (c (u (c (g 63) (c (i 0) n))) (c (u (c (g 157) (c (l 2) n))) (c (u (c (g 63) (c (i 1) n))) (c (u (c (g 157) (c (l 2) n))) (c (u (c (g 60) (c (i 0) n))) (c (u (c (g 59) (c (i 0) n))) (c (u (c (g 46) (c (i 1) n))) (c (u (c (g 63) (c (i 0) n))) (c (u (c (g 63) (c (i 1) n))) (c (u (c (g 60) (c (i 0) n))) (c (u (c (g 59) (c (i 0) n))) n))))))))))))))))) (s (e (f (g 80) (c (l 0) (c (g 175) (c (g 172) (c (st 61) (c (g 114) (c (g 71) (c (u (c (l 1) (c (l 1) n))) (c (i 2) (c (l 3) n))))))))))) (s (e (f (g 80) (c (l 0) (c (g 178) (c (g 172) (c (st 60) (c (g 114) (c (g 71) (c (u (c (l 1) (c (l 1) n))) (c (i 2) (c (f (g 112) (c (l 1) (c (g 175) n))) n))))))))))) (s (e (f (g 80) (c (l 0) (c (g 177) (c (g 172) (c (st 55) (c (g 69) (c (g 71) (c (u (c (g 70) n)) (c (i 2) (c (ls (c (u (c (g 63) (c (i 0) n))) (c (u (c (g 63) (c (i 1) n))) (c (u (c (g 176) (c (l 1) n))) (c (f (g 62) (c (l 1) (c (g 175) n))) (c (u (c (g 59) (c (i 0) n))) n)))))) n))))))))))) (s (e (f (g 80) (c (l 0) (c (g 174) (c (g 172) (c (st 54) (c (g 69) (c (g 68) (c (u n) (c (i 1) (c (ls (c (u (c (g 63) (c (i 0) n))) (c (u (c (g 157) (c (l 2) n))) (c (u (c (g 59) (c (i 0) n))) n)))) n))))))))))) (s (e (f (g 67) (c (l 0) (c (g 173) (c (g 172) (c (st 80) (c (g 53) (c (l 1) (c (u (c (g 92) n)) (c (g 171) n)))))))))) o)))))))))⟩
noncomputable def f50:F:=⟨2,2,(s (y (p 0 (l 1) (st 81)) (s z o) (s (y (p 0 (l 1) (st 82)) (s z o) (s (y (p 0 (l 1) (st 83)) (s (e (f (g 181) (c (l 0) n))) o) (s (y (p 0 (l 1) (st 84)) (s z o) (s (y (p 0 (l 1) (st 85)) (s z o) (s (r (xb false)) o)) o)) o)) o)) o)) (s (r (xb true)) o))⟩
noncomputable def f51:F:=⟨2,2,(s (y (f (g 186) (c (l 0) (c (l 1) n))) (s (r (xb true)) o) o) (s (y (p 0 (l 1) (st 86)) (s (e (f (g 182) (c (l 0) n))) o) (s (y (p 0 (l 1) (st 22)) (s z o) (s (y (p 0 (l 1) (st 87)) (s (e (f (g 183) (c (l 0) n))) o) (s (y (p 0 (l 1) (st 88)) (s (e (f (g 184) (c (l 0) n))) o) (s (y (p 0 (l 1) (st 89)) (s (e (f (g 185) (c (l 0) n))) o) (s z o)) o)) o)) o)) o)) (s (r (xb true)) o)))⟩
noncomputable def f52:F:=⟨1,2,(s (y (p 0 (l 0) (st 83)) (s (r (cp (l 1) 1 (f (g 0) (c (i 9) (c (i 20) n))) (xb true))) o) o) (s (r (k (d (c (st 86) (c (ls (c (i 6) (c (i 44) (c (i 45) (c (i 46) (c (i 47) (c (i 53) (c (i 54) n)))))))) (c (st 87) (c (ls (c (i 43) n)) (c (st 88) (c (ls (c (i 49) (c (i 50) n))) (c (st 89) (c (ls (c (i 51) n)) n)))))))) n) (l 0))) o))⟩
noncomputable def f53:F:=⟨1,1,(s (r (k (d (c (st 83) (c (ls (c (i 103) (c (i 104) n))) (c (st 86) (c (ls (c (i 63) n)) (c (st 87) (c (ls (c (i 187) n)) (c (st 88) (c (ls (c (i 195) (c (i 197) (c (i 198) (c (i 199) n))))) (c (st 89) (c (ls (c (i 200) (c (i 201) (c (i 211) (c (i 212) n))))) n)))))))))) n) (l 0))) o)⟩
noncomputable def f54:F:=⟨2,13,(s (q (t 2) (f (g 191) n)) (s (q (t 3) (a (l 2) 51)) (s (w (t 5) (f (g 0) (c (l 1) n)) (s (e (f (g 121) (c (l 3) (c (k (u (c (g 76) (c (g 72) (c (g 70) n)))) (l 5)) n)))) o)) (s (q (ta (l 2) 50) (b 2 (ls (c xn n)) (i 64))) (s (q (ta (l 2) 49) (b 2 (ls (c xn n)) (i 64))) (s (q (ta (l 2) 17) (b 2 (ls (c xn n)) (i 256))) (s (w (t 6) (l 0) (s (w (t 4) (f (g 188) (c (l 6) n)) (s (q (ts (a (l 2) 50) (l 4)) (f (g 189) (c (l 4) (c (b 0 (st 95) (f (g 31) (c (l 4) n))) (c (g 190) (c (i 0) (c (ng (i 1)) (c (u n) (c (i 0) n))))))))) o)) o)) (s (q (t 9) (f (g 56) (c (l 3) (c (i 50) (c (u n) n))))) (s (q (t 7) (f (g 56) (c (l 3) (c (i 51) (c (u n) n))))) (s (q (t 8) (f (g 56) (c (l 3) (c (i 6) (c (u n) n))))) (s (q (t 10) (d (c (i 1) (c (u (c (g 70) (c (i 0) (c (g 25) (c (u n) n))))) (c (i 2) (c (u (c (g 70) (c (i 0) (c (g 72) (c (u n) n))))) (c (i 62) (c (u (c (l 8) (c (i 1) (c (g 71) (c (u (c (l 8) (c (l 8) n))) n))))) (c (i 63) (c (u (c (l 8) (c (i 1) (c (g 71) (c (u (c (l 8) (c (l 8) n))) n))))) (c (i 103) (c (u (c (g 68) (c (i 0) (c (g 68) (c (u (c (g 68) n)) n))))) (c (i 104) (c (u (c (g 76) (c (i 0) (c (g 68) (c (u (c (g 76) n)) n))))) (c (i 185) (c (u (c (f (g 56) (c (l 3) (c (i 43) (c (u n) n)))) (c (i 1) (c (g 25) (c (u (c (g 72) n)) n))))) (c (i 187) (c (u (c (f (g 56) (c (l 3) (c (i 43) (c (u n) n)))) (c (i 1) (c (g 25) (c (u (c (g 70) n)) n))))) (c (i 195) (c (u (c (f (g 56) (c (l 3) (c (i 49) (c (u n) n)))) (c (i 1) (c (g 25) (c (u (c (g 70) n)) n))))) (c (i 197) (c (u (c (l 9) (c (i 0) (c (g 25) (c (u (c (g 70) (c (g 71) n))) n))))) (c (i 198) (c (u (c (l 9) (c (i 0) (c (g 70) (c (u n) n))))) (c (i 199) (c (u (c (l 9) (c (i 0) (c (g 71) (c (u n) n))))) (c (i 200) (c (u (c (l 7) (c (i 1) (c (g 71) (c (u (c (l 7) (c (l 7) n))) n))))) (c (i 201) (c (u (c (l 7) (c (i 1) (c (g 71) (c (u (c (l 7) (c (l 7) n))) n))))) (c (i 204) (c (u (c (l 9) (c (i 1) (c (g 68) (c (u (c (g 70) (c (g 71) n))) n))))) (c (i 205) (c (u (c (l 9) (c (i 1) (c (g 70) (c (u (c (g 68) n)) n))))) (c (i 211) (c (u (c (l 7) (c (i 0) (c (g 71) (c (u (c (g 70) n)) n))))) (c (i 212) (c (u (c (l 7) (c (i 0) (c (g 68) (c (u n) n))))) n)))))))))))))))))))))))))))))))))))) n)) (s (q (t 11) (d (c (i 3) (c (u (c (i 6) (c (l 8) (c (g 70) n)))) (c (i 4) (c (u (c (i 6) (c (l 8) (c (g 92) n)))) (c (i 5) (c (u (c (i 6) (c (l 8) (c (f (g 121) (c (l 3) (c (l 8) n))) n)))) (c (i 18) (c (u (c (i 50) (c (l 9) (c (g 68) n)))) (c (i 19) (c (u (c (i 51) (c (l 7) (c (g 68) n)))) n)))))))))) n)) (s (q (t 12) (d (c (i 15) (c (f (g 187) (c (l 3) (c (g 68) n))) (c (i 17) (c (f (g 187) (c (l 3) (c (g 76) n))) (c (i 50) (c (l 9) (c (i 51) (c (l 7) n)))))))) n)) (s (r (d (c (st 94) (c (l 2) (c (st 93) (c (l 10) (c (st 18) (c (l 11) (c (st 92) (c (l 12) (c (st 91) (c (l 9) (c (st 90) (c (u (c (g 70) (c (g 72) (c (g 24) (c (l 9) (c (l 7) (c (l 8) n))))))) n)))))))))))) n)) o))))))))))))))⟩
noncomputable def f55:F:=⟨1,1,(s (y (h 3 3 (g 71) (l 0) (g 192)) (s (r (g 68)) o) o) (s (r (l 0)) o))⟩
noncomputable def f56:F:=⟨3,3,(s (y (p 0 (l 1) (f (g 193) (c (l 2) n))) (s (r (xb true)) o) o) (s z o))⟩
noncomputable def f57:F:=⟨4,10,(s (q (t 4) (k (l 1) (st 98))) (s (y (p 7 (k (l 3) (i 1)) (k (l 0) (st 93))) (s z o) o) (s (q (tt [6,7,8,9]) (k (k (l 0) (st 93)) (k (l 3) (i 1)))) (s (y (xo (oc (p 1 (k (l 3) (i 0)) (l 6)) (oc (p 1 (k (l 3) (i 2)) (u n)) (oe (p 2 (f (g 3) (c (l 4) n)) (b 1 (b 0 (f (g 3) (c (l 9) n)) (i 1)) (l 7))))))) (s z o) o) (s (w (t 5) (sl (l 9) xn xn (ng (i 1))) (s (y (nt (f (g 195) (c (l 0) (c (m (l 4) 97 n) (c (l 5) n))))) (s z o) o) o)) (s (y (p 0 (l 7) (i 1)) (s (y (p 1 (l 2) (g 57)) (s z o) o) o) (s (y (p 0 (k (l 3) (i 1)) (i 1)) (s (y (xo (oc (p 1 (l 2) (g 57)) (oc (p 1 (m (l 4) 97 n) (g 194)) (oe (p 6 (g 194) (l 4)))))) (s z o) o) (s (q (ts (k (l 1) (st 96)) (i 0)) (k (l 0) (st 91))) o)) (s (y (xo (oc (p 1 (l 2) (g 58)) (oe (nt (f (g 195) (c (l 0) (c (m (l 4) 97 n) (c (l 6) n)))))))) (s z o) o) o)) o)) (s (y (p 1 (l 8) (g 25)) (s (e (m (l 4) 1 (c (f (g 193) (c (l 8) n)) n))) o) o) (s (r (xb true)) o))))))))⟩
noncomputable def f58:F:=⟨4,10,(s (q (t 5) (k (l 1) (st 98))) (s (y (xo (oc (p 0 (l 2) (g 63)) (oc (p 0 (l 2) (g 61)) (oe (p 0 (l 2) (g 138)))))) (s (y (p 0 (l 2) (g 63)) (s (e (m (l 5) 1 (c (f (g 193) (c (k (k (l 1) (st 96)) (l 3)) n)) n))) o) (s (y (p 0 (l 2) (g 61)) (s (e (m (l 5) 1 (c (g 68) n))) o) (s (e (m (l 5) 1 (c (g 24) n))) o)) o)) (s (r (xb true)) o)) o) (s (y (p 0 (f (g 3) (c (l 5) n)) (i 0)) (s z o) o) (s (q (t 4) (m (l 5) 97 n)) (s (y (xo (oc (p 0 (l 2) (g 139)) (oe (p 0 (l 2) (g 179))))) (s (r (xo (oc (p 0 (l 4) (g 68)) (oe (p 6 (l 4) (k (l 0) (st 90))))))) o) o) (s (y (p 0 (l 2) (g 176)) (s (e (m (l 5) 1 (c (l 3) n))) (s (r (xa (ac (p 6 (l 4) (k (l 0) (st 90))) (ae (p 6 (l 3) (k (l 0) (st 90))))))) o)) o) (s (y (xo (oc (p 0 (l 2) (g 85)) (oe (p 0 (l 2) (g 82))))) (s (e (m (l 5) 1 (c (it (p 0 (l 2) (g 85)) (g 68) (g 76)) n))) (s (r (p 0 (l 4) (k (k (l 0) (st 92)) (it (p 0 (l 2) (g 85)) (i 15) (i 17))))) o)) o) (s (y (p 0 (l 2) (g 157)) (s (q (tt [8,7,9]) (k (k (l 0) (st 18)) (k (l 3) (i 1)))) (s (e (m (l 5) 1 (c (f (g 193) (c (l 9) n)) n))) (s (r (xa (ac (p 0 (l 8) (k (l 1) (st 27))) (ac (p 0 (l 4) (l 7)) (ae (p 0 (k (l 3) (i 0)) (l 7))))))) o))) o) (s (y (p 0 (f (g 3) (c (l 5) n)) (i 0)) (s z o) o) (s (q (t 6) (m (l 5) 97 n)) (s (y (p 0 (l 2) (g 148)) (s (q (tt [8,7,9]) (k (k (l 0) (st 18)) (k (l 3) (i 1)))) (s (r (xa (ac (p 0 (l 8) (k (l 1) (st 27))) (ac (p 0 (l 6) (l 7)) (ac (p 0 (k (l 3) (i 0)) (l 7)) (ae (f (g 195) (c (l 0) (c (l 4) (c (l 9) n)))))))))) o)) o) (s (e (m (l 5) 1 (c (g 68) n))) (s (y (p 0 (l 2) (g 60)) (s (r (xo (oc (xa (ac (p 0 (l 4) (l 6)) (ae (p 6 (l 4) (u (c (g 68) (c (g 76) n))))))) (oe (xa (ac (p 6 (l 4) (k (l 0) (st 90))) (ae (p 6 (l 6) (k (l 0) (st 90)))))))))) o) o) (s (y (p 0 (l 2) (g 64)) (s (r (xa (ac (p 0 (l 4) (g 68)) (ae (p 0 (l 6) (g 68)))))) o) o) (s (r (xa (ac (xo (oc (p 0 (l 2) (g 66)) (oe (p 0 (l 2) (g 65))))) (ac (p 0 (l 4) (l 6)) (ae (p 6 (l 4) (u (c (g 68) (c (g 76) n))))))))) o)))))))))))))))⟩
noncomputable def f59:F:=⟨4,7,(s (y (p 7 (l 2) (l 1)) (s (q (ts (l 1) (l 2)) (cp (l 6) 6 (l 3) (xb true))) (s (r (xb true)) o)) o) (s (q (t 5) (k (l 1) (l 2))) (s (y (p 1 (f (g 3) (c (l 5) n)) (f (g 3) (c (l 3) n))) (s z o) o) (s (w (t 4) (f (g 0) (c (f (g 3) (c (l 5) n)) n)) (s (y (xa (ac (p 0 (k (l 5) (l 4)) (g 24)) (ae (p 6 (k (l 3) (l 4)) (k (l 0) (st 90)))))) (s (q (ts (l 5) (l 4)) (k (l 3) (l 4))) o) (s z o)) o)) (s (r (xb true)) o)))))⟩
noncomputable def f60:F:=⟨2,19,(s (q (t 12) (k (a (k (l 0) (st 94)) 17) (l 1))) (s (q (t 10) (a (a (l 12) 34) 43)) (s (q (tt [17,15,9,16]) (k (k (l 0) (st 93)) (l 1))) (s (q (t 14) (m (d (c (i 63) (c (i 6) (c (i 103) (c (i 15) (c (i 104) (c (i 17) (c (i 187) (c (i 43) (c (i 195) (c (i 49) (c (i 197) (c (i 50) (c (i 198) (c (i 50) (c (i 199) (c (i 50) n)))))))))))))))) n) 6 (c (l 1) (c (i 51) n)))) (s (q (t 13) (cp (l 18) 18 (l 16) (xb true))) (s (y (p 0 (l 15) (i 0)) (s (q (t 13) (b 0 (ls (c (it (p 0 (l 1) (i 197)) (g 194) (k (k (l 0) (st 92)) (l 14))) n)) (l 13))) o) o) (s (q (t 3) (d (c (st 98) (c (ls n) (c (st 96) (c (l 13) (c (st 27) (c (l 14) n)))))) n)) (s (q (t 7) (d (c (i 0) (c (ls n) n)) n)) (s (q (t 6) (xb false)) (s (q (t 11) (i 0)) (s (w (t 5) (f (g 0) (c (f (g 3) (c (l 10) n)) n)) (s (q (tt [2,4]) (k (l 10) (l 5))) (s (y (xo (oc (xa (ac (l 6) (ae (nt (f (g 196) (c (l 0) (c (l 7) (c (l 5) (c (k (l 3) (st 98)) n))))))))) (oe (p 7 (l 5) (l 7))))) (s z o) o) (s (q (ts (l 3) (st 98)) (cp (l 18) 18 (k (l 7) (l 5)) (xb true))) (s (q (t 6) (xb true)) (s (y (p 0 (l 2) (g 59)) (s (q (t 8) (k (l 3) (st 98))) (s (q (t 6) (xb false)) (s (y (xo (oc (xa (ac (p 0 (l 9) (g 25)) (ae (p 1 (l 8) (ls n))))) (oe (xa (ac (p 1 (l 9) (g 25)) (ae (xo (oc (p 1 (f (g 3) (c (l 8) n)) (i 1)) (oe (nt (f (g 195) (c (l 0) (c (k (l 8) (i 0)) (c (l 9) n)))))))))))))) (s z o) o) o))) (s (y (xo (oc (p 0 (l 2) (g 57)) (oe (p 0 (l 2) (g 58))))) (s (y (nt (f (g 197) (c (l 0) (c (l 3) (c (l 2) (c (l 4) n)))))) (s z o) o) o) (s (y (p 0 (l 2) (g 137)) (s (q (t 6) (xb false)) o) (s (y (nt (f (g 198) (c (l 0) (c (l 3) (c (l 2) (c (l 4) n)))))) (s z o) o) o)) o)) o)) (s (y (xo (oc (p 0 (l 2) (g 137)) (oc (p 0 (l 2) (g 139)) (oe (p 0 (l 2) (g 179)))))) (s (y (xo (oc (p 3 (l 4) (l 5)) (oc (p 5 (l 4) (f (g 3) (c (l 10) n))) (oe (nt (f (g 196) (c (l 0) (c (l 7) (c (l 4) (c (k (l 3) (st 98)) n)))))))))) (s z o) o) o) (s (y (xa (ac (p 1 (l 4) (i 0)) (ae (p 6 (l 2) (u (c (g 59) (c (g 138) (c (g 60) (c (g 66) (c (g 65) (c (g 64) (c (g 85) (c (g 82) n))))))))))))) (s z o) o) o)) (s (y (p 4 (f (g 3) (c (k (l 3) (st 98)) n)) (l 11)) (s (q (t 11) (f (g 3) (c (k (l 3) (st 98)) n))) o) o) o)))))))) (s (y (xo (oc (l 6) (oc (p 6 (g 194) (l 13)) (oe (p 1 (l 11) (a (a (l 12) 34) 44)))))) (s z o) o) (s (r (xa (ac (p 0 (a (l 12) 31) (l 14)) (ac (p 0 (a (l 12) 33) (i 0)) (ac (p 0 (a (a (l 12) 34) 45) (u n)) (ae (p 0 (a (a (l 12) 34) 42) (ls n)))))))) o)))))))))))))⟩
noncomputable def f61:F:=⟨3,6,(s (q (t 5) (k (d (c (i 1) (c (i 1) (c (i 2) (c (i 1) (c (i 62) (c (i 2) (c (i 185) (c (i 1) (c (i 200) (c (i 2) (c (i 204) (c (i 2) (c (i 205) (c (i 1) n)))))))))))))) n) (l 1))) (s (q (t 4) (ls (c (l 1) n))) (s (w (t 3) (f (g 0) (c (b 1 (f (g 3) (c (l 2) n)) (l 5)) (c (f (g 3) (c (l 2) n)) n))) (s (e (m (l 4) 1 (c (k (l 2) (l 3)) n))) o)) (s (w (t 3) (f (g 0) (c (l 5) n)) (s (e (m (l 2) 97 n)) o)) (s (e (m (k (l 0) (st 100)) 1 (c (f (g 29) (c (l 4) n)) n))) (s (y (xa (ac (p 1 (l 1) (i 1)) (ae (p 1 (l 1) (i 185))))) (s (e (m (l 2) 1 (c (k (l 0) (st 99)) n))) o) o) o))))))⟩
noncomputable def f62:F:=⟨1,1,(s (y (l 0) (s (r (i 1)) o) o) (s (r (i 0)) o))⟩
noncomputable def f63:F:=⟨3,13,(s (q (t 11) (a (a (k (a (k (l 0) (st 94)) 17) (l 1)) 34) 43)) (s (q (t 9) (k (l 0) (st 101))) (s (q (t 4) (ls n)) (s (q (t 8) (i 0)) (s (w (t 12) (f (g 0) (c (i 24) n)) (s (q (tt [3,6]) (k (l 11) (l 8))) (s (ag 8 0 (i 1)) (s (y (p 0 (l 3) (g 59)) (s (r (l 4)) o) o) (s (y (p 0 (l 3) (g 137)) (s (q (t 8) (l 6)) o) (s (y (p 0 (l 3) (g 63)) (s (e (m (l 4) 1 (c (k (l 2) (l 6)) n))) o) (s (y (p 0 (l 3) (g 61)) (s (e (m (l 4) 1 (c (l 6) n))) o) (s (y (p 0 (l 3) (g 138)) (s (e (m (l 4) 1 (c xn n))) o) (s (y (xo (oc (p 0 (l 3) (g 57)) (oe (p 0 (l 3) (g 58))))) (s (e (f (g 199) (c (l 0) (c (k (l 6) (i 1)) (c (l 4) n))))) o) (s (q (t 5) (m (l 4) 97 n)) (s (y (xo (oc (p 0 (l 3) (g 139)) (oe (p 0 (l 3) (g 179))))) (s (y (p 0 (xa (ac (p 9 (l 5) xn) (ae (p 1 (l 5) (i 0))))) (p 0 (l 3) (g 139))) (s (q (t 8) (l 6)) o) o) o) (s (y (p 0 (l 3) (g 176)) (s (e (m (l 4) 1 (c (it (xa (ac (p 9 (l 5) xn) (ae (p 0 (k (l 5) (i 0)) (st 89))))) (l 5) xn) n))) o) (s (y (xo (oc (p 0 (l 3) (g 157)) (oc (p 0 (l 3) (g 85)) (oe (p 0 (l 3) (g 82)))))) (s (q (t 10) (u (c (l 5) (c (it (p 0 (l 3) (g 157)) (k (l 6) (i 1)) (i 0)) n)))) (s (y (p 7 (l 10) (l 9)) (s z o) o) (s (e (m (l 4) 1 (c (k (l 9) (l 10)) n))) o))) (s (y (p 0 (l 3) (g 148)) (s (q (ts (l 9) (u (c (m (l 4) 97 n) (c (k (l 6) (i 1)) n)))) (l 5)) o) (s (q (t 7) (m (l 4) 97 n)) (s (y (p 0 (l 3) (g 60)) (s (e (m (l 4) 1 (c (f (g 200) (c (p 0 (l 7) (l 5)) n)) n))) o) (s (y (p 0 (l 3) (g 66)) (s (e (m (l 4) 1 (c (f (g 200) (c (p 4 (l 7) (l 5)) n)) n))) o) (s (y (p 0 (l 3) (g 65)) (s (e (m (l 4) 1 (c (f (g 200) (c (p 2 (l 7) (l 5)) n)) n))) o) (s (e (m (l 4) 1 (c (b 1 (l 7) (l 5)) n))) o)) o)) o)) o))) o)) o)) o)) o))) o)) o)) o)) o)) o))))) (s z o))))))⟩
noncomputable def f64:F:=⟨1,4,(s (q (t 1) (k (u (c (i 0) (c (i 5) (c (ng (i 1)) n)))) (b 4 (b 3 (l 0) (i 49)) (i 3)))) (s (q (t 2) (u (c (ng (i 2147483648)) (c (ng (i 1)) (c (i 0) (c (i 1) (c (i 2147483647) n))))))) (s (q (t 3) (u (c (ng (i 4294967297)) (c (ng (i 1)) (c (i 0) (c (i 1) (c (i 4294967296) n))))))) (s (r (d (c (u (c (u (c (st 89) (c (i 1) n))) (c (i 19) n))) (c (l 1) (c (u (c (u (c (st 89) (c (i 2) n))) (c (i 19) n))) (c (l 1) (c (u (c (u (c (st 89) (c (i 3) n))) (c (i 19) n))) (c (b 0 (l 1) (i 1)) (c (u (c (u (c (st 91) (c (i 6) n))) (c (i 18) n))) (c (i 3) (c (u (c (u (c (st 91) (c (i 7) n))) (c (i 18) n))) (c (i 4) (c (u (c (u (c (st 103) (c (i 8) n))) (c (i 0) n))) (c (k (l 2) (b 4 (l 0) (i 5))) (c (u (c (u (c (st 102) (c (i 9) n))) (c (i 0) n))) (c (k (l 3) (b 4 (l 0) (i 5))) n)))))))))))))) n)) o))))⟩
noncomputable def f65:F:=⟨3,15,(s (q (t 8) (k (l 0) (st 101))) (s (q (t 5) (u (c xn (c (u (c (st 89) (c (i 1) n))) (c (u (c (st 89) (c (i 2) n))) (c (u (c (st 89) (c (i 3) n))) (c (u (c (st 105) (c (i 4) n))) (c (u (c (st 91) (c (i 6) n))) (c (u (c (st 91) (c (i 7) n))) n))))))))) (s (q (t 3) (k (l 5) (b 4 (l 2) (i 7)))) (s (q (t 6) (k (l 5) (b 0 (i 5) (b 4 (b 3 (l 2) (i 7)) (i 2))))) (s (q (t 9) (b 4 (b 3 (l 2) (i 16)) (i 2))) (s (y (xo (oc (p 0 (l 1) (i 103)) (oe (p 0 (l 1) (i 104))))) (s (q (t 12) (b 4 (l 2) (i 5))) (s (q (t 10) (b 4 (b 3 (l 2) (i 5)) (i 5))) (s (q (t 7) (k (u (c (u (c (st 103) (c (i 8) n))) (c (u (c (st 102) (c (i 9) n))) n))) (b 1 (l 1) (i 103)))) (s (q (t 14) (k (k (u (c (u (c (ng (i 2147483648)) (c (ng (i 1)) (c (i 0) (c (i 1) (c (i 2147483647) n)))))) (c (u (c (ng (i 4294967297)) (c (ng (i 1)) (c (i 0) (c (i 1) (c (i 4294967296) n)))))) n))) (b 1 (l 1) (i 103))) (l 10))) (s (r (u (c (ls (c (l 7) (c (l 14) n))) (c (i 0) (c (ls (c (b 1 (f (g 200) (c (p 4 (l 12) (l 10)) n)) (f (g 200) (c (p 2 (l 12) (l 10)) n))) n)) (c (ls n) n)))))) o))))) o) (s (y (xo (oc (p 0 (l 1) (i 63)) (oc (p 0 (l 1) (i 200)) (oe (p 0 (l 1) (i 201)))))) (s (q (t 3) (k (l 5) (b 4 (l 2) (i 4)))) (s (q (t 4) (k (l 5) (b 4 (b 3 (l 2) (i 4)) (i 4)))) (s (y (p 1 (l 1) (i 200)) (s (r (u (c (ls (c (l 3) (c (l 4) n))) (c (l 9) (c (ls (c (b 1 (i 1) (l 9)) n)) (c (ls (c (u (c (it (p 0 (l 1) (i 63)) (i 62) (i 200)) (c (l 3) (c (l 4) n)))) n)) n)))))) o) o) (s (y (xo (oc (p 8 (l 3) xn) (oe (p 8 (l 4) xn)))) (s (r (u (c (ls (c (l 3) (c (l 4) n))) (c (i 0) (c (ls (c (f (g 200) (c (xa (ac (p 8 (l 3) xn) (ae (p 8 (l 4) xn)))) n)) n)) (c (ls n) n)))))) o) o) (s (r (u (c (ls (c (l 3) (c (l 4) n))) (c (i 0) (c (ls (c (f (g 200) (c (p 0 (k (l 8) (u (c (l 3) (c (i 19) n)))) (k (l 8) (u (c (l 4) (c (i 19) n))))) n)) n)) (c (ls n) n)))))) o))))) o) (s (y (p 0 (l 1) (i 187)) (s (q (t 11) (k (u (c xn (c (u (c (st 104) (c (i 10) n))) n))) (b 4 (b 3 (l 2) (i 7)) (i 2)))) (s (y (p 8 (l 3) xn) (s (r (u (c (ls (c (l 3) n)) (c (l 11) (c (ls n) (c (ls (c (u (c (i 185) (c xn n))) n)) n)))))) o) o) (s (r (u (c (ls (c (l 3) n)) (c (l 11) (c (ls n) (c (ls (c (u (c (i 2) (c (l 3) n))) (c (u (c (i 185) (c (l 11) n))) n))) n)))))) o))) o) (s (y (p 0 (l 1) (i 197)) (s (q (t 13) (k (u (c (i 0) (c (i 1) (c (i 2) (c (i 255) n))))) (b 4 (b 3 (l 2) (i 14)) (i 4)))) (s (r (u (c (ls (c (l 6) (c (l 3) (c (l 13) n)))) (c (b 0 (i 5) (b 4 (b 3 (l 2) (i 56)) (i 9))) (c (ls n) (c (ls (c (u (c (i 1) (c (l 6) n))) (c (u (c (i 204) (c (l 3) (c (l 13) n)))) n))) n)))))) o)) o) (s (y (p 0 (l 1) (i 198)) (s (r (u (c (ls (c (l 6) n)) (c (l 3) (c (ls (c (l 3) n)) (c (ls (c (u (c (i 205) (c (k (l 8) (u (c (l 6) (c (i 18) n)))) n))) n)) n)))))) o) o) (s (y (p 0 (l 1) (i 199)) (s (r (u (c (ls (c (l 6) n)) (c (l 3) (c (ls (c (f (g 200) (c (p 9 (l 3) xn) n)) n)) (c (ls (c (u (c (i 205) (c (k (l 8) (u (c (l 6) (c (i 18) n)))) n))) n)) n)))))) o) o) (s (q (t 7) (k (l 5) (b 0 (i 1) (b 4 (l 2) (i 3))))) (s (y (p 0 (l 1) (i 211)) (s (q (t 4) (k (l 5) (b 4 (b 3 (l 2) (i 3)) (i 7)))) (s (r (u (c (ls (c (l 7) (c (l 4) n))) (c (l 9) (c (ls (c (l 9) n)) (c (ls (c (u (c (i 200) (c (l 7) (c (it (p 6 (l 4) (sl (l 5) (i 1) (i 4) xn)) (l 4) xn) n)))) n)) n)))))) o)) o) (s (y (p 0 (l 1) (i 212)) (s (r (u (c (ls (c (l 7) n)) (c (i 0) (c (ls (c (k (l 8) (u (c (l 7) (c (i 19) n)))) n)) (c (ls n) n)))))) o) o) (s (r (u (c (ls (c (l 3) n)) (c (i 0) (c (ls n) (c (ls n) n)))))) o)))))))))))))))⟩
noncomputable def f66:F:=⟨3,8,(s (q (ts (l 0) (st 101)) (f (g 201) (c (l 2) n))) (s (q (tt [4,5,6,7]) (f (g 203) (c (l 0) (c (l 1) (c (l 2) n))))) (s (q (ts (l 0) (st 99)) (l 5)) (s (q (ts (l 0) (st 100)) (ls n)) (s (y (xo (oc (p 1 (f (g 202) (c (l 0) (c (l 1) (c (l 4) n)))) (l 6)) (oe (p 1 (k (l 0) (st 100)) (l 7))))) (s z o) o) (s (q (t 3) (f (g 201) (c (l 2) n))) (s (y (p 0 (l 1) (i 197)) (s (q (ts (l 3) (u (c (k (l 4) (i 0)) (c (i 18) n)))) (l 5)) o) o) (s (r (p 0 (k (l 0) (st 101)) (l 3))) o))))))))⟩
noncomputable def f67:F:=⟨2,17,(s (q (t 7) (k (l 0) (st 94))) (s (q (t 9) (ls n)) (s (q (t 10) (ls n)) (s (w (t 12) (l 1) (s (w (t 8) (f (g 188) (c (l 12) n)) (s (q (t 11) (k (a (l 7) 50) (l 8))) (s (w (t 5) (a (l 11) 17) (s (q (t 2) (k (a (l 7) 17) (l 5))) (s (y (xo (oc (p 1 (a (l 2) 41) (l 5)) (oc (p 1 (a (l 2) 31) (l 8)) (oe (p 1 (p 8 (a (l 2) 34) xn) (p 4 (a (l 2) 33) (i 0))))))) (s z o) o) (s (y (p 9 (a (l 2) 34) xn) (s (e (m (l 9) 1 (c (l 5) n))) o) o) o)))) (s (w (t 4) (a (l 11) 18) (s (q (t 3) (k (a (l 7) 49) (l 4))) (s (q (t 6) (m (k (l 0) (st 18)) 6 (c (l 4) (c (u (c (i 0) (c (i 0) (c (i 0) n)))) n)))) (s (y (p 1 (u (c (a (l 3) 32) (c (a (l 3) 31) (c (a (l 3) 30) (c (a (l 3) 29) (c (a (l 3) 24) n)))))) (u (c (l 4) (c (k (l 6) (i 0)) (c (k (l 6) (i 2)) (c (g 54) (c (i 0) n))))))) (s z o) o) (s (e (m (l 10) 1 (c (l 4) n))) o))))) o)))) o)) (s (q (t 14) (ls n)) (s (q (t 13) (ls n)) (s (w (t 12) (l 1) (s (e (m (l 14) 106 (c (f (g 205) (c (l 12) n)) n))) (s (e (m (l 13) 106 (c (m (d (c (st 86) (c (ls (c (i 3) (c (i 4) (c (i 5) n)))) (c (st 88) (c (ls (c (i 18) n)) (c (st 89) (c (ls (c (i 19) n)) n)))))) n) 6 (c (l 12) (c (ls n) n))) n))) (s (w (t 5) (b 0 (f (g 205) (c (l 12) n)) (m (d (c (st 86) (c (ls (c (i 62) n)) (c (st 87) (c (ls (c (i 185) n)) (c (st 88) (c (ls (c (i 204) (c (i 205) n))) n)))))) n) 6 (c (l 12) (c (ls n) n)))) (s (q (t 2) (k (a (l 7) 17) (l 5))) (s (y (xo (oc (p 8 (l 2) xn) (oe (p 1 (u (c (b 5 (a (l 2) 24) (g 53)) (c (a (l 2) 37) (c (a (l 2) 21) n)))) (sl (k (k (l 0) (st 93)) (l 5)) (i 1) xn xn))))) (s z o) o) o))) o)))) (s (q (t 15) (cp (l 16) 16 (f (g 0) (c (i 64) n)) (p 9 (k (a (l 7) 49) (l 16)) xn))) (s (r (xa (ac (p 0 (f (g 204) (c (l 9) n)) (f (g 204) (c (l 14) n))) (ac (p 0 (f (g 204) (c (l 10) n)) (f (g 204) (c (l 13) n))) (ae (p 0 (l 15) (f (g 204) (c (l 13) n)))))))) o)))))))))⟩
noncomputable def f68:F:=⟨1,8,(s (q (t 1) (cp (b 4 (l 7) (i 1000000007)) 7 (sl (l 0) xn (i 3) xn) (xb true))) (s (y (p 0 (l 1) (ls n)) (s (q (t 1) (ls (c (i 468) n))) o) o) (s (q (t 2) (cp (k (u (c (st 83) (c (st 86) (c (st 87) (c (st 88) (c (st 89) n)))))) (b 4 (l 7) (i 5))) 7 (l 1) (xb true))) (s (w (t 3) (u (c (st 88) (c (st 89) n))) (s (y (p 7 (l 3) (l 2)) (s (e (m (l 2) 1 (c (l 3) n))) o) o) o)) (s (q (t 4) (ls n)) (s (w (t 3) (l 2) (s (y (p 7 (l 3) (l 4)) (s (e (m (l 4) 1 (c (l 3) n))) o) o) o)) (s (q (t 5) (f (g 210) (c (l 4) (c (b 4 (k (l 1) (i 0)) (i 4)) n)))) (s (w (t 3) (l 2) (s (y (nt (f (g 209) (c (k (l 5) (st 94)) (c (l 3) n)))) (s z o) o) o)) (s (y (nt (f (g 208) (c (l 5) (c (l 4) n)))) (s z o) o) (s (w (t 3) (l 4) (s (w (t 6) (f (g 205) (c (l 3) n)) (s (y (nt (f (g 207) (c (l 5) (c (l 6) n)))) (s z o) o) (s (w (t 7) (l 1) (s (y (nt (f (g 206) (c (l 5) (c (l 6) (c (b 3 (l 7) (i 5)) n))))) (s z o) o) o)) o))) o)) (s (r (xb true)) o)))))))))))⟩
end
noncomputable def fnL:List F:=[f0,f1,f2,f3,f4,f5,f6,f7,f8,f9,f10,f11,f12,f13,f14,f15,f16,f17,f18,f19,f20,f21,f22,f23,f24,f25,f26,f27,f28,f29,f30,f31,f32,f33,f34,f35,f36,f37,f38,f39,f40,f41,f42,f43,f44,f45,f46,f47,f48,f49,f50,f51,f52,f53,f54,f55,f56,f57,f58,f59,f60,f61,f62,f63,f64,f65,f66,f67,f68]
noncomputable def nmsL:List (List String):=[["self","number","row"],["self","k"],["self","row","inner","depth","level","weight","opened","found","k"],["row","sort"],["sort"],["sort"],["kt","row","inner","sort"],["kt","row"],["kt","args","arg"],["kt","k","sort"],["kt","tid","args"],["kt","elem"],["kt","inner"],["kt","i"],["op"],["self","tid","name","sort","flags","base","params","asm","word"],["self","fid","owner","name","kind","access","flags"],["self","mid","owner","name","access","flags","ret","params"],["self","locals_","maxstack","code","clauses"],["self"],["count","place","out"],["store","tid","kind","t"],["store","fid","tid","name","kind","access","flags","old"],["flags"],["store","mid","tid","name","access","flags","ret","params","t","old"],["store","mid","m","t"],["store","mid","locals_","maxstack","code","clauses","ins","clause","rows","edges"],["store","mid","n"],["rows","row"],["store","tid","name","kind","getter","setter","index_kinds"],["tid","which"],["m"],["rows","op","operand","code","places","count"],["store","mid","tid","name","flags","ret","params","depth","rows"],["store","mid","tid","name","flags","ret","params","number"],["store","mid","tid","name","ret","params","number"],["store","tid","name","kind","getter","setter","index_kinds","row"],["store","tid"],["owner","mid"],["owner","mid"],["owner","mid"],["load"],["store","tid","mid","number"],["store","tid"],["store","tid","mid","ret","params"],["store","own","first","second"],["store","write","own"],["store","own","handle","reach","alive"],["store"],["store","own","number","same"],["store","word"],["store","word"],["word"],["word"],["called","shift","store","kt","tid","i","word","kin","call","weak","heads","fields","this"],["k"],["w","s","t"],["w","f","op","x","stack","k","owner","static","ret","params"],["w","f","op","x","k","stack","other","owner","tid","kind"],["w","joins","goal","stack","i","old"],["w","mid","op","f","x","i","falls","joins","left","ret","code","most","m","args","tid","static","params","owner"],["w","mid","stack","i","row","many"],["yes"],["w","mid","args","op","stack","v","x","other","ip","cells","key","code","turn"],["z","t","edges","wide"],["w","mid","z","a","b","pool","me","this","cells","yes","q","said","p","flag","other"],["w","mid","z","after","args","gives","result","log"],["w","called","m","g","fid","mid","row","store","tid","written","fids","t","word","named","wanted","placed"],["script","nums","words","word","called","w","mid","n"]]
noncomputable def glbL:List G:=[.bi 1,.val (.int 16),.val (.int 1),.bi 0,.val (.int 4096),.val (.int 24),.fn 3,.fn 4,.val (.int 7),.val (.int 6),.fn 6,.val (.int 10),.val (.int 11),.val (.int 9),.val (.int 8),.val (.int 5),.val (.int 4),.val (.int 3),.val (.int 2),.fn 7,.fn 9,.fn 5,.fn 8,.tab [((.int 20),(.int 0)),((.int 9),(.int 1)),((.int 10),(.int 2)),((.int 11),(.int 3)),((.int 12),(.int 4)),((.int 13),(.int 5)),((.int 14),(.int 6)),((.int 15),(.int 7)),((.int 16),(.int 8)),((.int 17),(.int 9)),((.int 18),(.int 10)),((.int 19),(.int 11)),((.int 1),(.int 12)),((.int 4),(.int 13))],.val (.int 14),.val (.int 0),.tab [((.int 0),(.int 0)),((.int 20),(.int 0)),((.int 32),(.int 1)),((.int 33),(.int 2)),((.int 37),(.int 0)),((.int 38),(.int 0)),((.int 40),(.int 9)),((.int 42),(.int 0)),((.int 56),(.int 5)),((.int 57),(.int 5)),((.int 58),(.int 5)),((.int 59),(.int 5)),((.int 60),(.int 5)),((.int 61),(.int 5)),((.int 62),(.int 5)),((.int 63),(.int 5)),((.int 64),(.int 5)),((.int 65),(.int 5)),((.int 66),(.int 5)),((.int 67),(.int 5)),((.int 68),(.int 5)),((.int 69),(.int 6)),((.int 70),(.int 0)),((.int 71),(.int 0)),((.int 72),(.int 0)),((.int 73),(.int 0)),((.int 74),(.int 0)),((.int 75),(.int 0)),((.int 76),(.int 0)),((.int 77),(.int 0)),((.int 80),(.int 0)),((.int 81),(.int 0)),((.int 82),(.int 0)),((.int 83),(.int 0)),((.int 84),(.int 0)),((.int 85),(.int 0)),((.int 88),(.int 0)),((.int 89),(.int 0)),((.int 90),(.int 0)),((.int 91),(.int 0)),((.int 92),(.int 0)),((.int 93),(.int 0)),((.int 94),(.int 0)),((.int 95),(.int 0)),((.int 96),(.int 0)),((.int 97),(.int 0)),((.int 98),(.int 0)),((.int 99),(.int 0)),((.int 100),(.int 0)),((.int 101),(.int 0)),((.int 102),(.int 0)),((.int 103),(.int 0)),((.int 104),(.int 0)),((.int 105),(.int 0)),((.int 106),(.int 0)),((.int 109),(.int 0)),((.int 110),(.int 0)),((.int 111),(.int 9)),((.int 113),(.int 7)),((.int 114),(.int 10)),((.int 115),(.int 9)),((.int 116),(.int 7)),((.int 117),(.int 7)),((.int 121),(.int 7)),((.int 122),(.int 0)),((.int 123),(.int 8)),((.int 124),(.int 8)),((.int 125),(.int 8)),((.int 126),(.int 8)),((.int 127),(.int 8)),((.int 128),(.int 8)),((.int 129),(.int 7)),((.int 130),(.int 0)),((.int 131),(.int 0)),((.int 132),(.int 0)),((.int 133),(.int 0)),((.int 134),(.int 0)),((.int 135),(.int 0)),((.int 136),(.int 0)),((.int 137),(.int 0)),((.int 140),(.int 7)),((.int 141),(.int 7)),((.int 142),(.int 0)),((.int 143),(.int 7)),((.int 163),(.int 7)),((.int 164),(.int 7)),((.int 165),(.int 7)),((.int 179),(.int 0)),((.int 180),(.int 0)),((.int 181),(.int 0)),((.int 182),(.int 0)),((.int 183),(.int 0)),((.int 184),(.int 0)),((.int 185),(.int 0)),((.int 186),(.int 0)),((.int 208),(.int 11)),((.int 209),(.int 0)),((.int 210),(.int 0)),((.int 211),(.int 0)),((.int 214),(.int 0)),((.int 215),(.int 0)),((.int 216),(.int 0)),((.int 217),(.int 0)),((.int 218),(.int 0)),((.int 219),(.int 0)),((.int 220),(.int 0)),((.int 221),(.int 5)),((.int 223),(.int 0)),((.int 65025),(.int 0)),((.int 65026),(.int 0)),((.int 65027),(.int 0)),((.int 65028),(.int 0)),((.int 65029),(.int 0)),((.int 65030),(.int 9)),((.int 65031),(.int 9)),((.int 65033),(.int 3)),((.int 65034),(.int 3)),((.int 65035),(.int 3)),((.int 65036),(.int 4)),((.int 65037),(.int 4)),((.int 65038),(.int 4)),((.int 65041),(.int 0)),((.int 65045),(.int 7)),((.int 65046),(.int 7)),((.int 65050),(.int 0)),((.int 65054),(.int 0))],.val (.int 5),.fn 20,.bi 3,.cls 0,.bi 4,.cls 2,.val (.int 63),.val (.int 128),.val (.int 32),.val (.int 64),.fn 25,.cls 3,.fn 23,.val (.int 255),.fn 31,.cls 4,.fn 28,.val (.int 70),.val (.int 9),.val (.int (-1)),.fn 14,.fn 26,.fn 32,.fn 24,.val (.int 6),.fn 27,.val (.int 1),.val (.int 1),.fn 29,.fn 10,.val (.int 40),.val (.int 111),.val (.int 42),.val (.int 65025),.val (.int 32),.fn 38,.val (.int 65033),.val (.int 89),.val (.int 65028),.val (.int 65026),.fn 34,.val (.int 7),.val (.int 2),.val (.int 12),.val (.int 1),.val (.int 13),.val (.int 64),.fn 30,.fn 21,.val (.int 9),.val (.int 48),.val (.int 17),.val (.int 15),.fn 33,.fn 41,.val (.int 76),.val (.int 22),.val (.int 104),.val (.int 74),.val (.int 103),.val (.int 19),.fn 42,.val (.int 26),.val (.int 6),.val (.int 25),.val (.int 11),.fn 44,.val (.int 122),.val (.int 54),.fn 13,.val (.int 120),.val (.int 53),.val (.int 118),.val (.int 47),.val (.int 116),.val (.int 46),.val (.int 114),.val (.int 45),.val (.int 112),.val (.int 44),.val (.int 23),.val (.int 6),.val (.int 207),.val (.int 22),.val (.int 64),.fn 40,.val (.int 62),.val (.int 129),.val (.int 63),.val (.int 21),.val (.int 61),.val (.int 20),.val (.int 60),.fn 22,.fn 11,.val (.int 5),.val (.int 4),.val (.int 3),.fn 37,.val (.int 32),.val (.int 2),.val (.int 43),.val (.int 190),.val (.int 31),.val (.int 189),.val (.int 30),.val (.int 188),.val (.int 185),.fn 39,.val (.int 2),.val (.int 56),.val (.int 20),.val (.int 58),.val (.int 187),.val (.int 29),.val (.int 186),.val (.int 28),.fn 36,.val (.int 199),.val (.int 50),.val (.int 198),.val (.int 125),.val (.int 204),.val (.int 1),.val (.int 197),.fn 35,.val (.int 39),.val (.int 205),.val (.int 38),.val (.int 18),.val (.int 123),.fn 47,.val (.int 37),.val (.int 49),.val (.int 196),.val (.int 195),.val (.int 36),.val (.int 194),.val (.int 35),.val (.int 193),.val (.int 34),.val (.int 192),.val (.int 33),.val (.int 191),.val (.int 40),.val (.int 51),.val (.int 202),.val (.int 212),.val (.int 200),.val (.int 117),.val (.int 211),.val (.int 201),.val (.int 57),.val (.int 19),.fn 43,.fn 45,.fn 46,.fn 48,.fn 49,.fn 50,.fn 12,.fn 52,.cls 1,.val (.int 1),.cls 5,.val (.int 8),.fn 55,.val (.int (-2)),.fn 56,.fn 59,.fn 57,.fn 58,.fn 61,.fn 62,.fn 64,.fn 63,.fn 65,.bi 2,.fn 53,.fn 66,.fn 60,.fn 67,.fn 51,.fn 54]
noncomputable def glbN:List String:=["range","PRIM_END","R_PRIM","len","HEAVIEST_KIND","DEEPEST_KIND","inner_kinds","row_level","R_MVAR","R_VAR","check_kind_row","R_FTN","R_RAW","R_ROREF","R_BOXED","R_BYREF","R_ARRAY","R_VALUE","R_CLASS","check_named","may_stand","row_length","check_args","TID_PRIM","NULLK","VOID","OP_SORT","SO_BRANCH","plain_names","tuple","KindTable","str","FieldDef","CF_END","MF_SPECIAL","MF_CTOR","MF_CCTOR","note_method","MethodDef","kept_flags","CM_END","is_virtual","Body","put_once","CM_PRIMS","T_BOOL","MARK","is_branch","set_body","settle","put_method_at","A_PUBLIC","set_native","MF_STATIC","A_PRIVATE","add_prop","class_kind","OP_CALL","OP_CALLVIRT","OP_RET","OP_CEQ","OP_LDC_I4","call_of","OP_LDARG","OP_SUB","OP_CLT","OP_CGT","put_native","I4","MF_VIRTUAL","OBJECT","BOOL","STRING","N_PRIM","prim_method","add_iface","I8","T_COMPARABLE","T_I8","T_I4","put_il","compare_rows","OP_LDIND_I8","VIRT_SEAL","CM_I8_COMPARE","OP_LDIND_I4","CM_I4_COMPARE","T_NINT","install_prim","N_DEL_INVOKE","VIRT_NEW","N_DEL_CTOR","NINT","put_delegate","CM_PRED_CTOR","T_PRED","var_kind","CM_FUNC3_CTOR","T_FUNC3","CM_FUNC2_CTOR","T_FUNC2","CM_FUNC1_CTOR","T_FUNC1","CM_ACTION1_CTOR","T_ACTION1","CM_ACTION_CTOR","T_ACTION","N_DEL_HASH","T_DELEGATE","CM_DEL_HASH","N_DEL_EQ","CM_DEL_EQUALS","negated","CM_DEL_EQ","STATIC_OP","CM_DEL_NE","N_REMOVE","CM_REMOVE","N_COMBINE","CM_COMBINE","put_field_at","array_kind","CF_DLIST","CF_DFTN","CF_DTARGET","plain_class","N_WRITE_CHAR","CHAR","T_CONSOLE","CM_WRITE_CHAR","N_WRITE_I8","CM_WRITE_I8","N_WRITE_BOOL","CM_WRITE_BOOL","CM_WRITE_TEXT","virt_of","CM_OBJ_TOSTRING","OP_BR","OP_LDNULL","OP_BRTRUE","CM_WRITE_OBJ","N_WRITE_I4","CM_WRITE_I4","N_WRITE_TEXT","put_prop","CM_WEAK_ALIVE","T_WEAK","CM_WEAK_TARGET","OP_STFLD","CM_NEW_HANDLE","CM_OBJ_CTOR","CM_WEAK_CTOR","put_hidden","N_HANDLE_TARGET","CM_HANDLE_TARGET","N_NEW_HANDLE","CF_WHANDLE","OP_LDFLD","install_weak","N_WAITFINAL","T_GC","CM_WAITFINAL","CM_KEEPALIVE","N_REREGISTER","CM_REREGISTER","N_SUPPRESS","CM_SUPPRESS","N_COLLECT_GEN","CM_COLLECT_GEN","N_COLLECT","CM_COLLECT","N_TYPE_FROM","T_TYPE","CM_TYPE_FROM","CM_TYPE_HASH","CM_TYPE_EQ","OP_ISINST","CM_TYPE_EQUALS","CM_TYPE_NE","OP_BRFALSE","CF_TKIND","install_core_prims","install_core_delegates","install_core_console","install_core_gc","install_core_type","install_first","byref_kind","_law_tids","TypeDef","S_CLASS","Store","U4","_law_flat","_law_RAW","_law_goes","_law_join","_law_call","_law_op","_law_do","_law_one","_law_cells","_law_run","_law_wanted","sorted","_law_bodies","_law_does","_law_body","_law_stands","install_core","_law_world"]
noncomputable def clsL:List (List (Nat×Nat)):=[[(107,0),(7,1),(8,2)],[(107,15)],[(107,16)],[(107,17)],[(107,18)],[(107,19)]]
noncomputable def lawFn:Nat:=68
noncomputable def n_init:Nat:=107
noncomputable def n_append:Nat:=1
noncomputable def n_extend:Nat:=106
noncomputable def n_get:Nat:=6
noncomputable def n_pop:Nat:=97
noncomputable def nameL:List String:=["opens","append","weights","depths","index","rows","get","row","put","home","finaliser","events","props","impls","under","cctor","asm","methods","fields","bounds","variances","params","ifaces","base","flags","sort","name","tid","value","access","kind","owner","fid","native","body","pflags","pnames","ret","gbounds","gnames","ngen","mid","clauses","code","maxstack","locals_","entry","asms","names","fields_","types","kt","p","Finalize","GetHashCode","Equals","ToString","CompareTo","Invoke",".ctor","op_Inequality","op_Equality","Remove","Combine","entries","method","target","WriteLine","IsAlive","Target","get_IsAlive","get_Target","HandleTarget","NewHandle","handle","WaitForPendingFinalizers","KeepAlive","ReRegisterForFinalize","SuppressFinalize","Collect","GetTypeFromHandle","object","text","prims","exceptions","nullable","delegates","console","gc","type","refs","weak","this","heads","store","T","args","pop","stack","gives","log","cells","long","int","words","thing","extend","__init__"]
noncomputable section
namespace Tr
variable {α:Type}
noncomputable def get (t:Tr α):Nat→Option α:=Tr.rec (motive:=fun _=>Nat→Option α) (fun _=>none) (fun v _ _ gl gr i=>Bool.rec (motive:=fun _=>Option α) (Bool.rec (motive:=fun _=>Option α) (gr (Nat.sub (Nat.div i 2) 1)) (gl (Nat.div i 2)) (Nat.beq (Nat.mod i 2) 1)) v (Nat.beq i 0)) t
noncomputable def putN (o:α) (n:Nat):Nat→Tr α:=Nat.rec (motive:=fun _=>Nat→Tr α) (fun _=>.nil) (fun _ ih i=>Bool.rec (motive:=fun _=>Tr α) (Bool.rec (motive:=fun _=>Tr α) (.node none .nil (ih (Nat.sub (Nat.div i 2) 1))) (.node none (ih (Nat.div i 2)) .nil) (Nat.beq (Nat.mod i 2) 1)) (.node (some o) .nil .nil) (Nat.beq i 0)) n
noncomputable def put (t:Tr α) (i:Nat) (o:α):Tr α:=(Tr.rec (fun i=>putN o 24 i) (fun v l r pl pr i=>Bool.rec (motive:=fun _=>Tr α) (Bool.rec (motive:=fun _=>Tr α) (.node v l (pr (Nat.sub (Nat.div i 2) 1))) (.node v (pl (Nat.div i 2)) r) (Nat.beq (Nat.mod i 2) 1)) (.node (some o) l r) (Nat.beq i 0)) t:Nat→Tr α) i
noncomputable def ofLf (l:List α):Nat→Tr α→Tr α:=List.rec (fun _ t=>t) (fun x _ ih i t=>ih (Nat.succ i) (t.put i x)) l
noncomputable def ofL (l:List α):Tr α:=ofLf l 0 .nil
end Tr
structure Hp where
 t:Tr O
 n:Nat
 rs:List ((Nat×Nat×Nat)×Nat)
 wr:List Nat
noncomputable def fnT:Tr F:=Tr.ofL fnL
noncomputable def glbT:Tr G:=Tr.ofL glbL
noncomputable def clsT:Tr (List (Nat×Nat)):=Tr.ofL clsL
noncomputable def Hp.set (h:Hp) (a:Nat) (o:O):Hp:=⟨h.t.put a o,h.n,h.rs,a::h.wr⟩
inductive R where
 | v (x:V) (h:Hp) | vs (xs:List V) (h:Hp) | nx (env:List V) (h:Hp) | rt (x:V) (h:Hp) | no
noncomputable def R.bv (r:R) (k:V→Hp→R):R:=R.rec (motive:=fun _=>R) (fun x h=>k x h) (fun _ _=>.no) (fun _ _=>.no) (fun _ _=>.no) .no r
noncomputable def R.bvs (r:R) (k:List V→Hp→R):R:=R.rec (motive:=fun _=>R) (fun _ _=>.no) (fun x h=>k x h) (fun _ _=>.no) (fun _ _=>.no) .no r
noncomputable def R.bnx (r:R) (k:List V→Hp→R):R:=R.rec (motive:=fun _=>R) (fun _ _=>.no) (fun _ _=>.no) (fun x h=>k x h) (fun x h=>.rt x h) .no r
noncomputable def R.tnx (r:R) (k:List V→Hp→R):R:=R.rec (motive:=fun _=>R) (fun _ _=>.no) (fun _ _=>.no) (fun x h=>k x h) (fun _ _=>.no) .no r
noncomputable def R.ofO {α:Type} (o:Option α) (k:α→R):R:=Option.rec (motive:=fun _=>R) .no k o
noncomputable def R.br (v:V) (k:Nat→R):R:=match v with | .ref a=>k a | _=>.no
noncomputable def R.obj (h:Hp) (v:V) (k:Nat→O→R):R:=R.br v fun a=>R.ofO (h.t.get a) fun o=>k a o
noncomputable def lid (b:Bool) (r:R):R:=Bool.rec (motive:=fun _=>R) .no r b
noncomputable def R.new (h:Hp) (o:O):R:=lid (Nat.blt h.n 16000000) (.v (.ref h.n) ⟨h.t.put h.n o,Nat.succ h.n,h.rs,h.wr⟩)
noncomputable def nth {α:Type} (l:List α):Nat→Option α:=List.rec (motive:=fun _=>Nat→Option α) (fun _=>none) (fun x _ ih n=>Nat.rec (motive:=fun _=>Option α) (some x) (fun n _=>ih n) n) l
noncomputable def lset {α:Type} (y:α) (l:List α):Nat→List α:=List.rec (motive:=fun _=>Nat→List α) (fun _=>[]) (fun x r ih n=>Nat.rec (motive:=fun _=>List α) (y::r) (fun n _=>x::ih n) n) l
noncomputable def assoc {α:Type} (k:Nat) (l:List (Nat×α)):Option α:=List.rec none (fun p _ ih=>Bool.rec (motive:=fun _=>Option α) ih (some p.2) (Nat.beq p.1 k)) l
noncomputable def aput (k:Nat) (v:V) (l:List (Nat×V)):List (Nat×V):=List.rec [(k,v)] (fun p r ih=>Bool.rec (motive:=fun _=>List (Nat×V)) (p::ih) ((k,v)::r) (Nat.beq p.1 k)) l
noncomputable def resOf (k c m:Nat) (l:List ((Nat×Nat×Nat)×Nat)):Option Nat:=List.rec none (fun p _ ih=>match Nat.beq p.1.1 k with
 | true=>match Nat.beq p.1.2.1 c with
  | true=>match Nat.beq p.1.2.2 m with | true=>some p.2 | false=>ih
  | false=>ih
 | false=>ih) l
noncomputable def iB (i j:Int):Bool:=match i,j with
 | .ofNat a,.ofNat b=>Nat.beq a b
 | .negSucc a,.negSucc b=>Nat.beq a b
 | _,_=>false
noncomputable def ilt (a b:Int):Bool:=match a,b with
 | .ofNat m,.ofNat n=>Nat.blt m n
 | .ofNat _,.negSucc _=>false
 | .negSucc _,.ofNat _=>true
 | .negSucc m,.negSucc n=>Nat.blt n m
noncomputable def oAnd (a:Option Bool) (b:Option Bool):Option Bool:=match a with | some true=>b | some false=>some false | none=>none
noncomputable def b3 (a b c:Bool):Bool:=Bool.rec (motive:=fun _=>Bool) false (Bool.rec (motive:=fun _=>Bool) false c b) a
noncomputable def ilEq (a:List Int):List Int→Bool:=List.rec (fun b=>match b with | []=>true | _=>false) (fun x _ ih b=>match b with | []=>false | y::r=>(match iB x y with | true=>ih r | false=>false)) a
noncomputable def ilNe (a:List Int):List Int→Bool:=List.rec (fun b=>match b with | []=>true | _=>false) (fun x _ ih b=>match b with | []=>false | y::r=>(match iB x y with | true=>false | false=>ih r)) a
noncomputable def siP (same:Bool) (m:Nat) (xs ys:List Int):Option Bool:=match same with
 | true=>(match ilEq xs ys with | true=>some true | false=>match b3 (Nat.blt 0 m) (Nat.ble m xs.length) (ilNe xs ys) with | true=>some false | false=>none)
 | false=>none
noncomputable def siEq (a b:SI):Option Bool:=match a with
 | .n k c=>(match b with | .n k' c'=>(match b3 (Nat.beq k k') (Nat.beq c c') true with | true=>some true | false=>none) | _=>none)
 | .r k c m x y=>(match b with | .r k' c' m' x' y'=>(match b3 (b3 (Nat.beq k k') (Nat.beq c c') (Nat.beq m m')) (iB x x') (iB y y') with | true=>some true | false=>none) | _=>none)
 | .p k c m xs=>(match b with | .p k' c' m' ys=>siP (b3 (Nat.beq k k') (Nat.beq c c') (Nat.beq m m')) m xs ys | _=>none)
 | .raw _=>none
noncomputable def veq (a:V):V→Option Bool:=V.rec
 (fun b=>match b with | .none=>some true | .bad=>none | .ub=>none | .glb _=>none | _=>some false)
 (fun x b=>match b with | .bool y=>some (x == y) | .int y=>some (iB (match x with | true=>1 | false=>0) y) | .bad=>none | .ub=>none | .si _=>none | .kd _=>none | .glb _=>none | _=>some false)
 (fun x b=>match b with | .int y=>some (iB x y) | .bool y=>some (iB x (match y with | true=>1 | false=>0)) | .kd _=>(match ilt x 16 with | true=>some false | false=>none) | .bad=>none | .ub=>none | .si _=>none | .glb _=>none | _=>some false)
 (fun x b=>match b with | .str y=>some (Nat.beq x y) | .bad=>none | .ub=>none | .dyn=>none | .glb _=>none | _=>some false)
 (fun _=>none)
 (fun x b=>match b with | .ref y=>(match Nat.beq x y with | true=>some true | false=>none) | .none=>some false | _=>none)
 (fun _ _=>none)
 (fun x b=>match b with | .si y=>siEq x y | .none=>some false | _=>none)
 (fun x b=>match b with | .kd y=>some (Nat.beq x y) | .int y=>(match ilt y 16 with | true=>some false | false=>none) | .none=>some false | _=>none)
 (fun _=>none)
 (fun _=>none)
 (fun b=>match b with | .tn=>some true | .tc _ _=>some false | .none=>some false | .int _=>some false | .str _=>some false | _=>none)
 (fun _ _ ix ir b=>match b with | .tc y s=>oAnd (ix y) (ir s) | .tn=>some false | .none=>some false | .int _=>some false | .str _=>some false | _=>none) a
noncomputable def vnest (a:V):Nat:=V.rec 100 (fun _=>100) (fun _=>0) (fun _=>0) 100 (fun _=>100) (fun _=>100) (fun _=>100) (fun _=>0) 100 100 1 (fun _ _ ix ir=>match Nat.ble (Nat.succ ix) ir with | true=>ir | false=>Nat.succ ix) a
noncomputable def vsort (k:V):Nat:=match k with | .int _=>1 | .kd _=>1 | .str _=>2 | .tn=>3 | .tc _ _=>3 | _=>0
noncomputable def vkey (k:V):Bool:=match k with | .tc x r=>Nat.ble (vnest (.tc x r)) 6 | .int _=>true | .kd _=>true | .str _=>true | .tn=>true | _=>false
noncomputable def headOk (m:Nat) (l:List (V×V)):Bool:=match l with | []=>true | p::_=>Nat.beq (vsort p.1) m
noncomputable def onB {α:Type} (b:Bool) (o:Option α):Option α:=match b with | true=>o | false=>none
noncomputable def findGo (k:V) (l:List (V×V)):Option (Option V):=List.rec (some none) (fun p _ ih=>match veq p.1 k with | some true=>some (some p.2) | some false=>ih | none=>none) l
noncomputable def find (k:V) (l:List (V×V)):Option (Option V):=onB (b3 (vkey k) (headOk (vsort k) l) true) (findGo k l)
noncomputable def dputGo (k v:V) (l:List (V×V)):Option (List (V×V)):=List.rec (some [(k,v)]) (fun p r ih=>match veq p.1 k with
  | some true=>some ((p.1,v)::r)
  | some false=>(match ih with | some r'=>some (p::r') | none=>none)
  | none=>none) l
noncomputable def dput (k v:V) (l:List (V×V)):Option (List (V×V)):=onB (b3 (vkey k) (headOk (vsort k) l) true) (dputGo k v l)
noncomputable def memL (k:V) (l:List V):Option Bool:=List.rec (some false) (fun x _ ih=>match veq x k with | some true=>some true | some false=>ih | none=>none) l
noncomputable def eqL (a:List V):List V→Option Bool:=List.rec (fun b=>match b with | []=>some true | _=>some false) (fun x _ ih b=>match b with | []=>some false | y::r=>oAnd (veq x y) (ih r)) a
noncomputable def toL (t:Tr V) (n:Nat):Option (List V):=(Nat.rec (fun acc=>some acc) (fun k ih acc=>match t.get k with | some v=>ih (v::acc) | none=>none) n:List V→Option (List V)) []
noncomputable def mkL (xs:List V):O:=.list xs.length (Tr.ofL xs)
noncomputable def R.newL (h:Hp) (xs:List V):R:=lid (Nat.blt xs.length 100000) (R.new h (mkL xs))
noncomputable def tupL (v:V):Option (List V):=V.rec none (fun _=>none) (fun _=>none) (fun _=>none) none (fun _=>none) (fun _=>none) (fun _=>none) (fun _=>none) none none (some []) (fun x _ _ ir=>match ir with | some l=>some (x::l) | none=>none) v
noncomputable def truthy (_:Hp) (v:V):Option Bool:=match v with | .bool b=>some b | _=>none
noncomputable def ifT (b:Bool) (r:R):R:=Bool.rec (motive:=fun _=>R) .no r b
noncomputable def small (m:Nat):Bool:=Nat.blt m 1073741824
noncomputable def binN (h:Hp) (op m n:Nat):R:=match op with
  | 2=>ifT (small m) (.v (.int (Int.ofNat (m * n))) h)
  | 3=>ifT (b3 (small n) (Nat.blt 0 n) true) (.v (.int (Int.fdiv (Int.ofNat m) (Int.ofNat n))) h)
  | 4=>ifT (Nat.blt 0 n) (.v (.int (Int.fmod (Int.ofNat m) (Int.ofNat n))) h)
  | 5=>.v (.int (Int.ofNat (Nat.land m n))) h
  | _=>.no
noncomputable def binI (h:Hp) (op:Nat) (x y:Int):R:=match op with
  | 0=>.v (.int (x + y)) h
  | 1=>.v (.int (x - y)) h
  | op=>match x,y with | .ofNat m,.ofNat n=>binN h op m n | _,_=>.no
noncomputable def siMod (h:Hp) (e:SI) (m:Nat):R:=match e with
 | .raw k=>ifT (Nat.beq m 1000000007) (.v (.si (.n k 1)) h)
 | .n k c=>ifT (Nat.blt 0 m) (match resOf k c m h.rs with | some r=>.v (.int (.ofNat r)) h | none=>.v (.si (.r k c m 0 1)) h)
 | _=>.no
noncomputable def siDiv (h:Hp) (e:SI) (d:Nat):R:=match e with
 | .n k c=>ifT (b3 (small d) (Nat.blt 0 d) true) (.v (.si (.n k (c * d))) h)
 | _=>.no
noncomputable def addL (d:Int) (xs:List Int):List Int:=List.rec [] (fun x _ ih=>(x + d)::ih) xs
noncomputable def siAdd (h:Hp) (e:SI) (d:Int):R:=match e with
 | .r k c m a b=>.v (.si (.r k c m (a + d) b)) h
 | .p k c m xs=>ifT (b3 (Nat.blt 0 m) (Nat.ble m xs.length) true) (.v (.si (.p k c m (addL d xs))) h)
 | _=>.no
noncomputable def binS (h:Hp) (op:Nat) (e:SI) (y:Int):R:=match op with
 | 0=>siAdd h e y
 | 3=>(match y with | .ofNat d=>siDiv h e d | _=>.no)
 | 4=>(match y with | .ofNat m=>siMod h e m | _=>.no)
 | _=>.no
noncomputable def binS' (h:Hp) (op:Nat) (x:Int) (e:SI):R:=match op with
 | 0=>siAdd h e x
 | 1=>(match e with | .r k c m a b=>.v (.si (.r k c m (x - a) (-b))) h | _=>.no)
 | _=>.no
noncomputable def mkT (xs:List V):V:=List.rec .tn (fun x _ ih=>.tc x ih) xs
noncomputable def R.newT (h:Hp) (xs:List V):R:=lid (Nat.blt xs.length 100000) (.v (mkT xs) h)
noncomputable def appT (a b:V):V:=V.rec .bad (fun _=>.bad) (fun _=>.bad) (fun _=>.bad) .bad (fun _=>.bad) (fun _=>.bad) (fun _=>.bad) (fun _=>.bad) .bad .bad b (fun x _ _ ir=>.tc x ir) a
noncomputable def repT (n:Nat) (a:V):V:=Nat.rec .tn (fun _ ih=>appT a ih) n
noncomputable def repL (n:Nat) (a:List V):List V:=Nat.rec [] (fun _ ih=>a ++ ih) n
noncomputable def lst (h:Hp) (v:V) (k:Nat→Nat→Tr V→R):R:=R.obj h v fun a o=>match o with | .list n t=>k a n t | _=>.no
noncomputable def binR (h:Hp) (op:Nat) (a b:V):R:=match op with
 | 0=>lst h a fun _ n t=>lst h b fun _ m u=>R.ofO (toL t n) fun xs=>R.ofO (toL u m) fun ys=>R.newL h ((xs ++ ys))
 | _=>.no
noncomputable def binM (h:Hp) (op:Nat) (a:V) (y:Int):R:=match op with
 | 2=>lst h a fun _ n t=>R.ofO (toL t n) fun xs=>(match y with | .ofNat k=>ifT (b3 (Nat.blt xs.length 1000) (Nat.blt k 1000) true) (R.newL h (repL k xs)) | _=>.no)
 | _=>.no
noncomputable def binTI (h:Hp) (op:Nat) (a:V) (y:Int):R:=match op with | 2=>(R.ofO (tupL a) fun xs=>(match y with | .ofNat k=>ifT (b3 (Nat.blt xs.length 1000) (Nat.blt k 3) true) (.v .bad h) | _=>.no)) | _=>.no
noncomputable def binop (h:Hp) (op:Nat) (a b:V):R:=match a with
 | .int x=>(match b with | .int y=>binI h op x y | .si e=>binS' h op x e | _=>.no)
 | .si e=>(match b with | .int y=>binS h op e y | _=>.no)
 | .str k=>(match b with | .dyn=>(match op with | 0=>ifT (Nat.blt k 1000) (.v .bad h) | _=>.no) | _=>.no)
 | .ref _=>(match b with | .ref _=>binR h op a b | .int y=>binM h op a y | _=>.no)
 | .tc _ _=>(match b with | .int y=>binTI h op a y | _=>.no)
 | _=>.no
noncomputable def vdep (a:V):Nat:=V.rec 0 (fun _=>0) (fun _=>0) (fun _=>0) 1000 (fun _=>1000) (fun _=>1000) (fun _=>0) (fun _=>0) 1000 1000 1 (fun _ _ ix ir=>Nat.succ (Nat.add ix ir)) a
noncomputable def vsm (a:V):Bool:=match a with | .tc x r=>Nat.ble (vdep (.tc x r)) 60 | .dyn=>false | .ref _=>false | .glb _=>false | .bad=>false | .ub=>false | _=>true
noncomputable def smL (l:List V):Bool:=List.rec true (fun x _ ih=>match vsm x with | true=>ih | false=>false) l
noncomputable def ifS (b:Bool) (o:Option Bool):Option Bool:=match b with | true=>o | false=>none
noncomputable def eqD (b:List (V×V)) (a:List (V×V)):Option Bool:=List.rec (some true) (fun p _ ih=>match find p.1 b with
 | some q=>(match q with | some v=>oAnd (ifS (b3 (vsm p.2) (vsm v) true) (veq p.2 v)) ih | none=>some false)
 | none=>none) a
noncomputable def eqO (o p:Option O):Option Bool:=match o,p with
  | some (.list n t),some (.list m u)=>(match toL t n,toL u m with | some xs,some ys=>ifS (b3 (smL xs) (smL ys) true) (eqL xs ys) | _,_=>none)
  | some (.dict xs),some (.dict ys)=>ifS (b3 (headOk 3 xs) (headOk 3 ys) (Nat.beq xs.length ys.length)) (eqD ys xs)
  | _,_=>none
noncomputable def eqR (h:Hp) (x y:Nat):Option Bool:=match Nat.beq x y with
 | true=>none
 | false=>eqO (h.t.get x) (h.t.get y)
noncomputable def eqop (h:Hp) (a b:V):Option Bool:=match a with
 | .ref x=>(match b with | .ref y=>eqR h x y | _=>none)
 | _=>ifS (b3 (vsm a) (vsm b) true) (veq a b)
noncomputable def inF (o:Option (Option V)):Option Bool:=match o with | some (some _)=>some true | some none=>some false | none=>none
noncomputable def inO (a:V) (o:Option O):Option Bool:=match o with
   | some (.list n t)=>(match toL t n with | some xs=>ifS (b3 (vsm a) (smL xs) true) (memL a xs) | none=>none)
   | some (.dict es)=>inF (find a es)
   | _=>none
noncomputable def inG (a:V) (o:Option G):Option Bool:=match o with
   | some (.tab es)=>inF (find a es)
   | _=>none
noncomputable def inop (h:Hp) (a b:V):Option Bool:=match b with
 | .tn=>ifS (vsm a) (some false)
 | .tc _ _=>(match tupL b with | some xs=>ifS (b3 (vsm a) (vsm b) true) (memL a xs) | none=>none)
 | .ref x=>inO a (h.t.get x)
 | .glb g=>inG a (glbT.get g)
 | _=>none
noncomputable def oNot (a:Option Bool):Option Bool:=match a with | some b=>some (!b) | none=>none
noncomputable def isop (a b:V):Option Bool:=match b with
 | .none=>(match a with | .none=>some true | .bad=>none | .ub=>none | .glb _=>none | _=>some false)
 | _=>none
noncomputable def ordI (k:Nat) (x y:Int):Option Bool:=match k with
   | 2=>some (ilt x y)
   | 3=>some (!(ilt y x))
   | 4=>some (ilt y x)
   | 5=>some (!(ilt x y))
   | _=>none
noncomputable def ordop (k:Nat) (a b:V):Option Bool:=match a with
 | .int x=>(match b with
  | .int y=>ordI k x y
  | .kd _=>(match k with | 3=>(match ilt x 16 with | true=>some true | false=>none) | _=>none)
  | _=>none)
 | .kd _=>(match b with
  | .int y=>(match k with | 3=>(match ilt y 16 with | true=>some false | false=>none) | _=>none)
  | _=>none)
 | _=>none
noncomputable def cmpop (h:Hp) (op:Nat) (a b:V):Option Bool:=match op with
 | 0=>eqop h a b
 | 1=>oNot (eqop h a b)
 | 6=>inop h a b
 | 7=>oNot (inop h a b)
 | 8=>isop a b
 | 9=>oNot (isop a b)
 | k=>ordop k a b
noncomputable def idx (i:Int) (n:Nat):Option Nat:=match i with
 | .ofNat k=>onB (Nat.blt k n) (some k)
 | .negSucc _=>none
inductive Sr where
 | tup (xs:List V) | lst (a:Nat) | rng (lo n:Nat)
noncomputable def srcO (a:Nat) (o:O):Option Sr:=match o with
 | .list _ _=>some (.lst a)
 | .rng lo hi=>(match lo with
  | .ofNat x=>(match hi with | .ofNat y=>onB (b3 (Nat.blt x 100000) (Nat.blt y 100000) true) (some (.rng x (Nat.sub y x))) | _=>none)
  | _=>none)
 | _=>none
noncomputable def srcOf (h:Hp) (v:V):Option Sr:=match v with
 | .tn=>some (.tup [])
 | .tc _ _=>(match tupL v with | some xs=>some (.tup xs) | none=>none)
 | .ref a=>(match h.t.get a with | some o=>srcO a o | none=>none)
 | _=>none
noncomputable def itemL (o:Option O) (i:Nat):Option (Option V):=match o with
  | some (.list n t)=>(match Nat.blt i n with
   | true=>(match t.get i with | some v=>some (some v) | none=>none)
   | false=>some none)
  | _=>none
noncomputable def item (h:Hp) (src:Sr) (i:Nat):Option (Option V):=match src with
 | .tup xs=>some (nth xs i)
 | .lst a=>itemL (h.t.get a) i
 | .rng lo n=>(match Nat.blt i n with | true=>some (some (.int (.ofNat (Nat.add lo i)))) | false=>some none)
noncomputable def dlay (l:List (V×V)):List (V×V)→Option (List (V×V)):=List.rec (fun acc=>some acc) (fun p _ ih acc=>match dput p.1 p.2 acc with | some a=>ih a | none=>none) l
noncomputable def insS (x:Int) (l:List Int):List Int:=List.rec [x] (fun y r ih=>match ilt y x with | true=>y::ih | false=>x::y::r) l
noncomputable def sortI (l:List Int):List Int:=List.rec [] (fun x _ ih=>insS x ih) l
noncomputable def intsL (l:List V):Option (List Int):=List.rec (some []) (fun x _ ih=>match x with | .int i=>(match ih with | some r=>some (i::r) | none=>none) | _=>none) l
noncomputable def mapInt (l:List Int):List V:=List.rec [] (fun x _ ih=>.int x::ih) l
noncomputable def padN (n:Nat):List V:=Nat.rec [] (fun _ ih=>.ub::ih) n
noncomputable def ofB (h:Hp) (o:Option Bool):R:=match o with | some b=>.v (.bool b) h | none=>.no
noncomputable def ifB (o:Option Bool) (a b:R):R:=match o with | some true=>a | some false=>b | none=>.no
noncomputable abbrev CF:=V→List V→Hp→R
noncomputable abbrev U:=CF→V→List V→Hp→R
noncomputable def cBin (op:Nat) (a b:U):U:=fun cf z env h=>(a cf z env h).bv fun x h=>(b cf z env h).bv fun y h=>binop h op x y
noncomputable def cCmp (op:Nat) (a b:U):U:=fun cf z env h=>(a cf z env h).bv fun x h=>(b cf z env h).bv fun y h=>ofB h (cmpop h op x y)
noncomputable def cChain (o1 o2:Nat) (a b c:U):U:=fun cf z env h=>(a cf z env h).bv fun x h=>(b cf z env h).bv fun y h=>
 ifB (cmpop h o1 x y) ((c cf z env h).bv fun w h=>ofB h (cmpop h o2 y w)) (.v (.bool false) h)
noncomputable def cIte (c a b:U):U:=fun cf z env h=>(c cf z env h).bv fun x h=>ifB (truthy h x) (a cf z env h) (b cf z env h)
noncomputable def cAnd (a b:U):U:=fun cf z env h=>(a cf z env h).bv fun x h=>ifB (truthy h x) (b cf z env h) (.v x h)
noncomputable def cOr (a b:U):U:=fun cf z env h=>(a cf z env h).bv fun x h=>ifB (truthy h x) (.v x h) (b cf z env h)
noncomputable def pairUp (l:List V):Option V→Option (List (V×V)):=List.rec (fun k=>match k with | none=>some [] | some _=>none) (fun x _ ih k=>match k with
 | none=>ih (some x)
 | some k=>(match ih none with | some r=>some ((k,x)::r) | none=>none)) l
noncomputable def cDct (ks:U):U:=fun cf z env h=>(ks cf z env h).bvs fun xs h=>R.ofO (pairUp xs none) fun ps=>R.ofO (dlay ps []) fun es=>lid (Nat.blt ps.length 900) (R.new h (.dict es))
noncomputable def getI (h:Hp) (xs:List V) (i:Int):R:=R.ofO (idx i xs.length) fun k=>R.ofO (nth xs k) fun v=>.v v h
noncomputable def getS (h:Hp) (xs:List V) (e:SI):R:=match e with
 | .r k c m a b=>(match a with
  | .ofNat a=>(match b with
   | .ofNat b=>ifT (b3 (Nat.beq b 1) (Nat.blt 0 m) (b3 (Nat.ble (Nat.add a m) xs.length) (Nat.blt xs.length 100000) true)) (match Nat.beq a 0 with
    | true=>(match intsL xs with | some is=>.v (.si (.p k c m is)) h | none=>.v .bad h)
    | false=>.v .bad h)
   | .negSucc _=>.no)
  | .negSucc _=>.no)
 | _=>.no
noncomputable def getT (h:Hp) (x iv:V):R:=R.ofO (tupL x) fun xs=>match iv with
 | .int i=>ifT (Nat.blt xs.length 100000) (getI h xs i)
 | .si e=>getS h xs e
 | _=>.no
noncomputable def subO (h:Hp) (o:O) (iv:V):R:=match o with
 | .list n t=>(match iv with | .int i=>R.ofO (idx i n) fun k=>R.ofO (t.get k) fun v=>.v v h | _=>.no)
 | .dict es=>R.ofO (find iv es) fun q=>R.ofO q fun v=>.v v h
 | _=>.no
noncomputable def subV (h:Hp) (x iv:V):R:=match x with
 | .ref a=>R.ofO (h.t.get a) fun o=>subO h o iv
 | .tc _ _=>getT h x iv
 | _=>.no
noncomputable def cSub (a i:U):U:=fun cf z env h=>(a cf z env h).bv fun x h=>(i cf z env h).bv fun iv h=>subV h x iv
noncomputable def fmap (f:Nat→Option V) (l:List Nat):List V:=List.rec [] (fun x _ ih=>Option.rec ih (fun v=>v::ih) (f x)) l
noncomputable def slT (h:Hp) (x:V) (g:List V→Bool) (k:List V→List V):R:=R.ofO (tupL x) fun xs=>lid (b3 (g xs) (Nat.blt xs.length 1000) true) (R.newT h (k xs))
noncomputable def sliceV (lo hi st:X) (h:Hp) (x:V):R:=match lo,hi,st with
 | .none,.int (.ofNat i),.none=>lst h x fun _ n t=>R.ofO (toL t n) fun xs=>R.newL h ((xs.take i))
 | .int (.ofNat i),.none,.none=>slT h x (fun xs=>b3 (Nat.ble 1 i) (Nat.ble i xs.length) true) fun xs=>xs.drop i
 | .int (.ofNat i),.int (.ofNat j),.none=>slT h x (fun xs=>b3 (Nat.ble 1 i) (Nat.ble i j) (Nat.ble j xs.length)) fun xs=>fmap (fun k=>nth xs (Nat.add i k)) (List.range (Nat.sub j i))
 | .none,.none,.neg (.int (.ofNat 1))=>slT h x (fun _=>true) fun xs=>fmap (fun k=>nth xs (Nat.sub (Nat.sub xs.length 1) k)) (List.range xs.length)
 | _,_,_=>.no
noncomputable def onGlb (v:V) (k:Nat→R):R:=match v with | .glb g=>k g | _=>.no
noncomputable def cCall (f as:U):U:=fun cf z env h=>(f cf z env h).bv fun fv h=>onGlb fv fun g=>(as cf z env h).bvs fun xs h=>cf (.glb g) xs h
noncomputable def popL (h:Hp) (a n:Nat) (t:Tr V):R:=match n with | k + 1=>R.ofO (t.get k) fun v=>.v v (h.set a (.list k t)) | 0=>.no
noncomputable def mList (h:Hp) (a k n:Nat) (t:Tr V) (xs:List V):R:=match Nat.beq k n_append with
 | true=>(match xs with | [x]=>lid (Nat.blt n 100000) (.v .none (h.set a (.list (Nat.succ n) (t.put n x)))) | _=>.no)
 | false=>(match Nat.beq k n_pop with
  | true=>(match xs with | []=>popL h a n t | _=>.no)
  | false=>(match Nat.beq k n_extend with
   | true=>(match xs with
    | [x]=>lst h x fun _ m u=>R.ofO (toL t n) fun xs=>R.ofO (toL u m) fun ys=>lid (Nat.blt (xs ++ ys).length 100000) (.v .none (h.set a (mkL (xs ++ ys))))
    | _=>.no)
   | false=>.no))
noncomputable def mDict (h:Hp) (k:Nat) (es:List (V×V)) (xs:List V):R:=match Nat.beq k n_get with
 | true=>(match xs with
  | [x,d]=>R.ofO (find x es) fun q=>match q with | some v=>.v v h | none=>.v d h
  | _=>.no)
 | false=>.no
noncomputable def nsO (o:Option O) (k:List (Nat×V)→R):R:=match o with | some (.ns es)=>k es | _=>.no
noncomputable def nN:Nat:=108
noncomputable def isN {α:Type} (o:Option α):Bool:=match o with | none=>true | some _=>false
noncomputable def attrOk (k:Nat) (ms:List (Nat×Nat)):Bool:=b3 (Nat.blt k nN) (isN (assoc k ms)) true
noncomputable def plainV (v:V):Bool:=match v with | .bad=>false | .glb _=>false | .ub=>false | _=>true
inductive MT where
 | fn (f:Nat) | l (a:Nat) | d (a:Nat) | g (es:List (V×V))
noncomputable def mName3 (k:Nat):Bool:=match Nat.beq k n_append with | true=>true | false=>(match Nat.beq k n_pop with | true=>true | false=>Nat.beq k n_extend)
noncomputable def mTag (h:Hp) (k:Nat) (ov:V) (kk:MT→R):R:=match ov with
 | .ref a=>R.ofO (h.t.get a) fun o=>(match o with
  | .inst c d=>R.ofO (clsT.get c) fun ms=>R.ofO (assoc k ms) fun f=>nsO (h.t.get d) fun es=>ifT (isN (assoc k es)) (kk (.fn f))
  | .list _ _=>ifT (mName3 k) (kk (.l a))
  | .dict _=>ifT (Nat.beq k n_get) (kk (.d a))
  | _=>.no)
 | .glb g=>R.ofO (glbT.get g) fun q=>(match q with | .tab es=>ifT (Nat.beq k n_get) (kk (.g es)) | _=>.no)
 | _=>.no
noncomputable def mRun (cf:CF) (k:Nat) (ov:V) (xs:List V) (h:Hp) (tg:MT):R:=match tg with
 | .fn f=>cf (.kd f) (ov::xs) h
 | .l a=>R.ofO (h.t.get a) fun o=>(match o with | .list n t=>mList h a k n t xs | _=>.no)
 | .d a=>R.ofO (h.t.get a) fun o=>(match o with | .dict es=>mDict h k es xs | _=>.no)
 | .g es=>mDict h k es xs
noncomputable def cMeth (o:U) (k:Nat) (as:U):U:=fun cf z env h=>(o cf z env h).bv fun ov h=>mTag h k ov fun tg=>(as cf z env h).bvs fun xs h=>mRun cf k ov xs h tg
noncomputable def sAttr (h:Hp) (k:Nat) (o:O):R:=match o with | .inst c d=>R.ofO (clsT.get c) fun ms=>ifT (attrOk k ms) (nsO (h.t.get d) fun es=>R.ofO (assoc k es) fun v=>ifT (plainV v) (.v v h)) | _=>.no
noncomputable def cAttr (e:U) (k:Nat):U:=fun cf z env h=>(e cf z env h).bv fun x h=>R.obj h x fun _ o=>sAttr h k o
noncomputable def gvV (h:Hp) (g:Nat) (q:G):R:=match q with | .val v=>.v v h | _=>.v (.glb g) h
noncomputable def cGlb (g:Nat):U:=fun _ _ _ h=>R.ofO (glbT.get g) fun q=>gvV h g q
noncomputable def cNot (e:U):U:=fun cf z env h=>(e cf z env h).bv fun x h=>R.ofO (truthy h x) fun b=>.v (.bool !b) h
noncomputable def cNeg (e:U):U:=fun cf z env h=>(e cf z env h).bv fun x h=>match x with | .int i=>.v (.int (-i)) h | _=>.no
noncomputable def isTrue (v:V):Option Bool:=match v with | .bool b=>some b | _=>none
noncomputable def compLoop (elt cond:U) (x:Nat) (cf:CF) (z:V) (src:Sr) (env:List V) (n:Nat):Nat→Hp→R:=Nat.rec (fun _ _=>.no) (fun _ ih i h=>R.ofO (item h src i) fun q=>match q with
 | none=>.vs [] h
 | some v=>(cond cf z (lset v env x) h).bv fun c h=>R.ofO (isTrue c) fun b=>match b with
  | false=>ih (Nat.succ i) h
  | true=>(elt cf z (lset v env x) h).bv fun y h=>(ih (Nat.succ i) h).bvs fun ys h=>.vs (y::ys) h) n
noncomputable def cComp (elt:U) (x:Nat) (it cond:U):U:=fun cf z env h=>(it cf z env h).bv fun sv h=>R.ofO (srcOf h sv) fun src=>(compLoop elt cond x cf z src env 400 0 h).bvs fun xs h=>R.newL h (xs)
noncomputable def cCons (e r:U):U:=fun cf z env h=>(e cf z env h).bv fun x h=>(r cf z env h).bvs fun ys h=>.vs (x::ys) h
noncomputable def putO (h:Hp) (a:Nat) (o:O) (iv v:V) (env:List V):R:=match o with
 | .list n t=>(match iv with | .int i=>R.ofO (idx i n) fun k=>ifT (Nat.blt h.n 16000000) (.nx env (h.set a (.list n (t.put k v)))) | _=>.no)
 | .dict es=>R.ofO (dput iv v es) fun es'=>lid (b3 (Nat.blt es'.length 900) (Nat.blt es.length 900) (Nat.blt h.n 16000000)) (.nx env (h.set a (.dict es')))
 | _=>.no
noncomputable def putA (h:Hp) (o:O) (k:Nat) (v:V) (env:List V):R:=match o with | .inst c d=>R.ofO (clsT.get c) fun ms=>ifT (attrOk k ms) (nsO (h.t.get d) fun es=>lid (b3 (Nat.blt es.length 900) (Nat.blt h.n 16000000) true) (.nx env (h.set d (.ns (aput k v es))))) | _=>.no
noncomputable def cTattr (e:U) (k:Nat):U:=fun cf z env h=>(e cf z env h).bv fun x h=>R.obj h x fun _ o=>putA h o k z env
noncomputable def cTsub (e i:U):U:=fun cf z env h=>(e cf z env h).bv fun x h=>(i cf z env h).bv fun iv h=>R.obj h x fun a o=>putO h a o iv z env
noncomputable def setMany (l:List Nat):List V→List V→List V:=List.rec (fun env _=>env) (fun x _ ih env vs=>match vs with | []=>env | v::r=>ih (lset v env x) r) l
noncomputable def cTtup (xs:List Nat):U:=fun _ z env h=>R.ofO (tupL z) fun vs=>match Nat.beq vs.length xs.length with | true=>.nx (setMany xs env vs) h | false=>.no
noncomputable def forLoop (t body:U) (cf:CF) (z:V) (src:Sr) (n:Nat):Nat→List V→Hp→R:=Nat.rec (fun _ _ _=>.no) (fun _ ih i env h=>R.ofO (item h src i) fun q=>match q with
 | none=>.nx env h
 | some v=>(t cf v env h).tnx fun env h=>(body cf z env h).bnx fun env h=>ih (Nat.succ i) env h) n
noncomputable def cFor (t it body:U):U:=fun cf z env h=>(it cf z env h).bv fun sv h=>R.ofO (srcOf h sv) fun src=>forLoop t body cf z src 400 0 env h
noncomputable def cAsgn (t e:U):U:=fun cf z env h=>(e cf z env h).bv fun v h=>(t cf v env h).tnx fun env h=>.nx env h
noncomputable def loc (env:List V) (x:Nat) (k:V→R):R:=R.ofO (nth env x) fun v=>match v with | .ub=>.no | v=>k v
noncomputable def iadd (h:Hp) (op:Nat) (a b:V):R:=match op with
 | 0=>(match a with | .int x=>(match b with | .int y=>.v (.int (x + y)) h | _=>.no) | _=>.no)
 | _=>.no
noncomputable def cAug (x op:Nat) (e:U):U:=fun cf z env h=>loc env x fun a=>(e cf z env h).bv fun b h=>(iadd h op a b).bv fun y h=>.nx (lset y env x) h
noncomputable def cExpr (e:U):U:=fun cf z env h=>(e cf z env h).bv fun _ h=>.nx env h
noncomputable def cRet (e:U):U:=fun cf z env h=>(e cf z env h).bv fun v h=>.rt v h
noncomputable def cIf (c a b:U):U:=fun cf z env h=>(c cf z env h).bv fun x h=>ifB (truthy h x) (a cf z env h) (b cf z env h)
noncomputable def cSeq (s r:U):U:=fun cf z env h=>(s cf z env h).bnx fun env h=>r cf z env h
noncomputable def cV (v:V):U:=fun _ _ _ h=>.v v h
noncomputable def cLoc (x:Nat):U:=fun _ _ env h=>loc env x fun v=>.v v h
noncomputable def cTup (es:U):U:=fun cf z env h=>(es cf z env h).bvs fun xs h=>R.newT h xs
noncomputable def cLst (es:U):U:=fun cf z env h=>(es cf z env h).bvs fun xs h=>R.newL h (xs)
noncomputable def cSlice (lo hi st:X) (a:U):U:=fun cf z env h=>(a cf z env h).bv fun x h=>sliceV lo hi st h x
noncomputable def cName (x:Nat):U:=fun _ z env h=>.nx (lset z env x) h
noncomputable def cNil:U:=fun _ _ _ h=>.vs [] h
noncomputable def cSkip:U:=fun _ _ env h=>.nx env h
noncomputable def cDead:U:=fun _ _ _ _=>.no
noncomputable def sem (x:X):U:=X.rec (motive:=fun _=>U)
 (cV .none) (fun b=>cV (.bool b)) (fun i=>cV (.int i)) (fun k=>cV (.str k))
 (fun x=>cLoc x) (fun g=>cGlb g) (fun _ k e=>cAttr e k) (fun op _ _ a b=>cBin op a b) (fun _ e=>cNot e) (fun _ e=>cNeg e)
 (fun _ r=>r) (fun _ r=>r) (fun _ a=>a) (fun _ _ a r=>cAnd a r) (fun _ a=>a) (fun _ _ a r=>cOr a r)
 (fun op _ _ a b=>cCmp op a b) (fun o1 o2 _ _ _ a b c=>cChain o1 o2 a b c)
 (fun _ _ _ c a b=>cIte c a b) (fun _ es=>cTup es) (fun _ es=>cLst es) (fun _ _ ks _=>cDct ks) (fun _ _ a i=>cSub a i)
 (fun _ lo hi st a _ _ _=>cSlice lo hi st a)
 (fun _ _ f as=>cCall f as) (fun _ k _ o as=>cMeth o k as) (fun _ x _ _ elt it cond=>cComp elt x it cond)
 cNil (fun _ _ e r=>cCons e r)
 (fun x=>cName x) (fun _ k e=>cTattr e k) (fun _ _ e i=>cTsub e i) (fun xs=>cTtup xs)
 (fun _ _ t e=>cAsgn t e) (fun x op _ e=>cAug x op e) (fun _ e=>cExpr e) (fun _ e=>cRet e)
 (fun _ _ _ c a b=>cIf c a b) (fun _ _ _ t it body=>cFor t it body) cSkip cDead
 cSkip (fun _ _ s r=>cSeq s r) x
noncomputable def fin (r:R):R:=R.casesOn r (fun _ _=>.no) (fun _ _=>.no) (fun _ h=>.v .none h) (fun v h=>.v v h) .no
noncomputable def lenV (h:Hp) (x:V):R:=match x with
 | .tn=>.v (.int 0) h
 | .tc a r=>R.ofO (tupL (.tc a r)) fun xs=>ifT (Nat.blt xs.length 100000) (.v (.int (.ofNat xs.length)) h)
 | .ref a=>R.ofO (h.t.get a) fun o=>(match o with | .list n _=>.v (.int (.ofNat n)) h | _=>.no)
 | _=>.no
noncomputable def rngV (h:Hp) (as:List V):R:=match as with
 | [a]=>(match a with | .int hi=>R.new h (.rng 0 hi) | _=>.no)
 | [a,b]=>(match a with | .int lo=>(match b with | .int hi=>R.new h (.rng lo hi) | _=>.no) | _=>.no)
 | _=>.no
noncomputable def tupV (h:Hp) (x:V):R:=match x with
 | .ref a=>R.ofO (h.t.get a) fun o=>(match o with | .list n t=>R.ofO (toL t n) fun xs=>R.newT h xs | _=>.no)
 | .tn=>.v .tn h
 | .tc y r=>R.ofO (tupL (.tc y r)) fun _=>.v (.tc y r) h
 | _=>.no
noncomputable def call1 (h:Hp) (k:Nat) (x:V):R:=match k with
   | 0=>lenV h x
   | 2=>lst h x fun _ n t=>R.ofO (toL t n) fun xs=>R.ofO (intsL xs) fun is=>lid (Nat.blt is.length 64) (R.newL h ((mapInt (sortI is))))
   | 3=>tupV h x
   | 4=>(match x with | .int (.ofNat i)=>ifT (Nat.blt i 900) (.v .dyn h) | _=>.no)
   | _=>.no
noncomputable def callB (h:Hp) (k:Nat) (as:List V):R:=match k with
 | 1=>rngV h as
 | _=>(match as with | [x]=>call1 h k x | _=>.no)
noncomputable def newI (h:Hp) (c:Nat) (k:V→Hp→R):R:=lid (Nat.blt (Nat.succ h.n) 16000000) <| k (.ref (Nat.succ h.n)) ⟨(h.t.put h.n (.ns [])).put (Nat.succ h.n) (.inst c h.n),Nat.succ (Nat.succ h.n),h.rs,h.wr⟩
noncomputable def onNone (v:V) (r:R):R:=match v with | .none=>r | _=>.no
noncomputable def callG (ih:CF) (as:List V) (h:Hp) (q:G):R:=match q with
 | .fn fi=>ih (.kd fi) as h
 | .cls c=>R.ofO (clsT.get c) fun ms=>R.ofO (assoc n_init ms) fun fi=>newI h c fun x h=>(ih (.kd fi) (x::as) h).bv fun w h=>onNone w (.v x h)
 | .bi k=>callB h k as
 | _=>.no
noncomputable def enter (ih:CF) (as:List V) (h:Hp) (fn:F):R:=match Nat.beq as.length fn.np with
 | true=>fin (sem fn.body ih .none (as ++ padN (Nat.sub fn.nl fn.np)) h)
 | false=>.no
noncomputable def callStep (ih:CF):CF:=fun f as h=>match f with
 | .kd fi=>R.ofO (fnT.get fi) fun fn=>enter ih as h fn
 | .glb g=>R.ofO (glbT.get g) fun q=>callG ih as h q
 | _=>.no
noncomputable def callF (n:Nat):CF:=Nat.rec (fun _ _ _=>.no) (fun _ ih=>callStep ih) n
noncomputable def h0:Hp:=⟨.nil,0,[],[]⟩
noncomputable def runLaw (ns:List Int):R:=(R.new h0 (mkL (mapInt ns))).bv fun x h=>callF 60 (.kd lawFn) [x] h
noncomputable def ok (r:R):Bool:=R.casesOn r (fun x _=>match x with | .bool b=>b | _=>false) (fun _ _=>false) (fun _ _=>false) (fun _ _=>false) false
end
end Mine
namespace Mine.Hd
noncomputable section
noncomputable abbrev pw:Program:=PySem.Challenge.pw_xm0345_01
noncomputable def S (s:String) (t:Nat):Value:=.str (Str.ofString s) t
noncomputable def I (i:Int) (t:Nat):Value:=.int i t
noncomputable def R (a:Nat):Value:=.ref a
noncomputable def oT (l:List Value):Obj:=⟨.type "tuple",none,.seq ⟨l⟩ 0,⟨[]⟩⟩
noncomputable def oF (l:List Value):Obj:=⟨.none,none,.fields ⟨l⟩,⟨[]⟩⟩
noncomputable def oN (n:String) (l:List Value):Obj:=⟨.type n,none,.fields ⟨l⟩,⟨[]⟩⟩
noncomputable def oD (l:List DictEntry) (n:Nat):Obj:=⟨.type "dict",none,.dict ⟨l⟩ n,⟨[]⟩⟩
noncomputable def oE (l:List DictEntry) (n:Nat):Obj:=⟨.none,none,.dict ⟨l⟩ n,⟨[]⟩⟩
noncomputable def E (P:Params) (s:String) (t:Nat) (v:Value):DictEntry:=⟨PyData.keyHash P (Str.ofString s),.str (Str.ofString s) t,v⟩
noncomputable def K (i t:Nat) (v:Value):DictEntry:=⟨i,.int i t,v⟩
noncomputable def oC (n q:String) (t l a:Nat):Obj:=oN "code" [S n t,S q (t + 1),S "/claim/cut.py" (t + 2),I l 0,I 0 0,I 0 0,I 0 0,I 0 0,R a,.bool false,I 181 0,R (a + 1),.none,.none,.none,.none,I (.ofNat (t + 3)) 0,I l 0,S "/claim/cut.py" (t + 4)]
noncomputable def nthS (l:List Stmt) (i:Nat):Stmt:=match nth l i with | some x=>x | none=>.Pass ⟨0,0,0,0⟩
noncomputable def btm:List Stmt:=behindTheImports pw
noncomputable def dropN {α:Type} (n:Nat) (l:List α):List α:=Nat.rec (motive:=fun _=>List α→List α) (fun l=>l) (fun _ ih l=>List.casesOn l [] fun _ r=>ih r) n l
noncomputable def takeN {α:Type} (n:Nat) (l:List α):List α:=Nat.rec (motive:=fun _=>List α→List α) (fun _=>[]) (fun _ ih l=>List.casesOn l [] fun x r=>x::ih r) n l
noncomputable def appN {α:Type} (l r:List α):List α:=List.rec r (fun x _ ih=>x::ih) l
noncomputable def locsO (l:List (Str×NameKind)):List Str:=List.rec [] (fun p _ ih=>NameKind.casesOn p.2 (p.1::ih) ih ih ih ih) l
noncomputable def toksO (l:List Str):Nat→List Value:=List.rec (fun _=>[]) (fun s _ ih t=>.str s t::ih (Nat.succ t)) l
noncomputable def lenO {α:Type} (l:List α):Nat:=List.rec 0 (fun _ _ ih=>Nat.succ ih) l
noncomputable def fdO (n q:Str) (ar:Arguments) (b:List Stmt) (sc:Scope) (k:Nat) (m c:Value):Data:=.func { name:=n,qualname:=q,params:=ar,body:=.stmts b,scope:=sc,globals:=k,closure:=[],defaults:=.none,kwdefaults:=.none,pyModule:=m,code:=c }
noncomputable def cdO (n q:Str) (t l c a f e:Nat) (v w:Value):Obj:=oN "code" [.str n t,.str q (t + 1),S "/claim/cut.py" (t + 2),I l 0,I c 0,I 0 0,I 0 0,I 3 0,R a,.bool true,I 181 0,R (a + 1),.none,v,w,R f,I e 0,I l 0,S "/claim/cut.py" (e + 1)]
noncomputable def fgO (m:Value) (n q:Str) (ar:Arguments) (b:List Stmt) (sc:Scope) (p:Pos) (k:Nat→Nat→List Obj) (a t:Nat):List Obj:=List.casesOn sc.more
 (let v:=locsO sc.names
 let e:=t + 3 + lenO v
 oT []::oF []::oT (toksO v (t + 3))::oT []::⟨.none,none,fdO n q ar b sc 0 .none .none,⟨[]⟩⟩::cdO n q t p.line (lenO ar.args) a (a + 4) e (R (a + 2)) (R (a + 3))::⟨.type "function",none,fdO n q ar b sc 3 m (R (a + 5)),⟨[]⟩⟩::k (a + 7) (e + 3))
 (fun _ _=>oT []::oF []::⟨.none,none,fdO n q ar b sc 0 .none .none,⟨[]⟩⟩::cdO n q t p.line (lenO ar.args) a (a + 2) (t + 3) .none .none::⟨.type "function",none,fdO n q ar b sc 3 m (R (a + 3)),⟨[]⟩⟩::k (a + 5) (t + 6))
noncomputable def fO (m:Value) (q:Option Str) (st:Stmt) (k:Nat→Nat→List Obj) (a t:Nat):List Obj:=match st with
 | .FunctionDef n ar b _ _ _ sc _ _ p=>fgO m n (Option.casesOn q n fun q=>q) ar b sc p k a t
 | _=>[]
noncomputable def fR (m:Value) (l:List Stmt) (a t:Nat) (r:List Obj):List Obj:=List.rec (motive:=fun _=>Nat→Nat→List Obj) (fun _ _=>r) (fun st _ ih=>fO m none st ih) l a t
noncomputable def mth (i j:Nat):Stmt:=match nthS btm i with | .ClassDef _ _ _ b _ _ _ _ _ _ _=>nthS b j | s=>s
noncomputable def fM (m:Value) (q:String) (i j a t:Nat) (r:List Obj):List Obj:=fO m (some (Str.ofString q)) (mth i j) (fun _ _=>r) a t
noncomputable def lnO (s:Stmt):Nat:=match s with | .FunctionDef _ _ _ _ _ _ _ _ _ p=>p.line | _=>0
noncomputable def lcO (s:Stmt):Nat:=match s with | .FunctionDef _ _ _ _ _ _ sc _ _ _=>lenO (locsO sc.names) | _=>0
noncomputable def prO:Obj:=oN "builtin_function_or_method" [.builtin "type.__prepare__",.type "type"]
noncomputable def frO (c n:Nat) (m:Value):Obj:=⟨.type "frame",none,.plain,⟨[some (R c),some (R 3),some (R n),none,some m,none,some (R 0)]⟩⟩
noncomputable def clO (s:String) (b m:List Value) (n:Nat) (u:List Value) (x:Option Value) (c:Nat) (nw:String):Obj:=⟨.type "type",none,.cls ⟨Str.ofString s,b,m,n,Str.ofString s,true,[],u,false,none,false⟩,⟨[x,none,some (S s c),some (S s (c + 8)),some (.builtin nw),some (.bool true)]⟩⟩
noncomputable def suO (a:Nat):Obj:=oN "super" [R a,R a,R a]
noncomputable def isO (a:Nat):Obj:=oN "builtin_function_or_method" [.builtin "object.__init_subclass__",R a]
noncomputable def dgO (t a:Nat):Obj:=oN "getset_descriptor" [S "__dict__" t,R a,.builtin "function.__dict__",.builtin "function.__dict__#set"]
noncomputable def wgO (t a:Nat):Obj:=oN "getset_descriptor" [S "__weakref__" t,R a,.builtin "ExceptionGroup.__weakref__",.none]
noncomputable def kO (P:Params) (m:Value) (s q:String) (l i a c:Nat) (at_:List String) (r:List Obj):List Obj:=
 let ini:=mth i 0
 let kI:=c + 15 + lcO ini
 let k:=kI + 1 + lenO at_
 let e1:=E P "__module__" (c + 5) m
 let e3:=E P "__firstlineno__" (c + 9) (I l (c + 8))
 let e4:=E P "__init__" kI (R (a + 13))
 let e5:=E P "__static_attributes__" k (R (a + 14))
 oT []::prO::oD [e1,E P "__qualname__" (c + 7) (S s (c + 6)),e3,e4,e5] 5::oT []::oF [I (lnO ini) 0,I 4 0,R (a + 12)]::oC s s c l (a + 3)::frO (a + 5) (a + 2) m::
 fM m q i 0 (a + 7) (c + 10) (oT (toksO (List.rec [] (fun x _ ih=>Str.ofString x::ih) at_) (kI + 1))::oD [e1,e3,e4,e5,E P "__dict__" (k + 2) (R (a + 17)),E P "__weakref__" (k + 4) (R (a + 18)),E P "__doc__" (k + 5) .none] 4::
  clO s [.type "object"] [R (a + 16),.type "object"] (a + 15) [] none (c - 2) "object.__new__"::dgO (k + 1) (a + 16)::wgO (k + 3) (a + 16)::suO (a + 16)::isO (a + 16)::r)
noncomputable def soL:List (Nat×Nat):=[(0,0),(20,0),(32,1),(33,2),(37,0),(38,0),(40,9),(42,0),(56,5),(57,5),(58,5),(59,5),(60,5),(61,5),(62,5),(63,5),(64,5),(65,5),(66,5),(67,5),(68,5),(69,6),(70,0),(71,0),(72,0),(73,0),(74,0),(75,0),(76,0),(77,0),(80,0),(81,0),(82,0),(83,0),(84,0),(85,0),(88,0),(89,0),(90,0),(91,0),(92,0),(93,0),(94,0),(95,0),(96,0),(97,0),(98,0),(99,0),(100,0),(101,0),(102,0),(103,0),(104,0),(105,0),(106,0),(109,0),(110,0),(111,9),(113,7),(114,10),(115,9),(116,7),(117,7),(121,7),(122,0),(123,8),(124,8),(125,8),(126,8),(127,8),(128,8),(129,7),(130,0),(131,0),(132,0),(133,0),(134,0),(135,0),(136,0),(137,0),(140,7),(141,7),(142,0),(143,7),(163,7),(164,7),(165,7),(179,0),(180,0),(181,0),(182,0),(183,0),(184,0),(185,0),(186,0),(208,11),(209,0),(210,0),(211,0),(214,0),(215,0),(216,0),(217,0),(218,0),(219,0),(220,0),(221,5),(223,0),(65025,0),(65026,0),(65027,0),(65028,0),(65029,0),(65030,9),(65031,9),(65033,3),(65034,3),(65035,3),(65036,4),(65037,4),(65038,4),(65041,0),(65045,7),(65046,7),(65050,0),(65054,0)]
noncomputable def soK (l:List (Nat×Nat)):Nat→List DictEntry:=List.rec (fun _=>[]) (fun p _ ih j=>K p.1 (Nat.add 633 (Nat.sub (Nat.mul 2 j) (Nat.sub j 119))) (I p.2 (Nat.add 609 (Nat.mul 2 p.2)))::ih (Nat.succ j)) l
noncomputable def soE:List DictEntry:=soK soL 0
noncomputable def soO (i n:Nat):Obj:=oD (takeN 17 (dropN (17 * i) soE)) n
noncomputable def g (s:String) (v:Int) (u:Nat):String×Nat×Value:=(s,u + 1,I v u)
noncomputable def r (s:String) (t a:Nat):String×Nat×Value:=(s,t,R a)
noncomputable def glB:List (String×Nat×Value):=[
 ("__doc__",166,.none),("__package__",167,.none),("__loader__",168,.builtin "__main__.__loader__#opaque"),("__spec__",169,.none),r "__annotations__" 170 6,r "__builtins__" 171 4,("__file__",173,S "/claim/cut.py" 172),("__cached__",174,.none),
 g "OP_LDNULL" 20 187,g "OP_LDC_I4" 32 189,g "OP_DUP" 37 191,g "OP_POP" 38 193,g "OP_CALL" 40 195,g "OP_RET" 42 197,g "OP_BR" 56 199,g "OP_BRFALSE" 57 201,
 g "OP_BRTRUE" 58 203,g "OP_LDIND_I4" 74 205,g "OP_LDIND_I8" 76 207,g "OP_SUB" 89 209,g "OP_CALLVIRT" 111 211,g "OP_LDSTR" 114 213,g "OP_NEWOBJ" 115 215,g "OP_ISINST" 117 217,
 g "OP_THROW" 122 219,g "OP_LDFLD" 123 221,g "OP_LDFLDA" 124 223,g "OP_STFLD" 125 225,g "OP_CEQ" 65025 227,g "OP_CGT" 65026 229,g "OP_CLT" 65028 231,g "OP_LDARG" 65033 233,
 g "OP_LDLOC" 65036 235,g "OP_STLOC" 65038 237,g "OP_CONSTRAINED" 65046 239,g "A_PRIVATE" 1 241,g "A_FAMILY" 4 243,g "A_PUBLIC" 6 245,r "RuneError" 279 31,r "BadKind" 295 44,
 g "VOID" 0 298,g "BOOL" 1 300,g "CHAR" 2 302,g "I1" 3 304,g "U1" 4 306,g "I2" 5 308,g "U2" 6 310,g "I4" 7 312,
 g "U4" 8 314,g "I8" 9 316,g "U8" 10 318,g "NINT" 11 320,g "OBJECT" 12 322,g "STRING" 13 324,g "NULLK" 14 326,g "PRIM_END" 16 328,
 g "R_PRIM" 1 330,g "R_CLASS" 2 332,g "R_VALUE" 3 334,g "R_ARRAY" 4 336,g "R_BYREF" 5 338,g "R_VAR" 6 340,g "R_MVAR" 7 342,g "R_BOXED" 8 344,
 g "R_ROREF" 9 346,g "R_FTN" 10 348,g "R_RAW" 11 350,g "DEEPEST_KIND" 24 352,g "HEAVIEST_KIND" 4096 354,r "PRIM_TID" 384 47,r "TID_PRIM" 413 48,g "ARRAY_TID" 5 414,
 r "KindTable" 472 79,r "inner_kinds" 480 90,r "row_level" 487 97,r "row_length" 494 104,r "check_kind_row" 504 111,r "check_named" 512 118,r "check_args" 521 125,r "may_stand" 530 132,
 r "class_kind" 539 139,r "value_kind" 548 146,r "prim_kind" 556 153,r "array_kind" 564 160,r "byref_kind" 572 167,r "var_kind" 580 174,r "tid_of" 589 181,r "is_value" 597 188,
 r "is_var" 606 195,g "SO_NONE" 0 609,g "SO_I4" 1 611,g "SO_I8" 2 613,g "SO_ARG" 3 615,g "SO_LOCAL" 4 617,g "SO_BRANCH" 5 619,g "SO_SWITCH" 6 621,
 g "SO_KIND" 7 623,g "SO_FIELD" 8 625,g "SO_METHOD" 9 627,g "SO_TEXT" 10 629,g "SO_TOKEN" 11 631,r "OP_SORT" 885 196,r "is_branch" 892 210,g "CF_MESSAGE" 1 893,
 g "CF_INNER" 2 895,g "CF_DTARGET" 3 897,g "CF_DFTN" 4 899,g "CF_DLIST" 5 901,g "CF_HASVALUE" 6 903,g "CF_VALUE" 7 905,g "CF_WHANDLE" 18 907,g "CF_TKIND" 19 909,
 g "CF_END" 63 911,g "CM_OBJ_CTOR" 1 913,g "CM_OBJ_TOSTRING" 2 915,g "CM_OBJ_EQUALS" 3 917,g "CM_OBJ_HASH" 4 919,g "CM_OBJ_GETTYPE" 5 921,g "CM_OBJ_FINALIZE" 6 923,g "CM_OBJ_REFEQ" 7 925,
 g "CM_VT_EQUALS" 8 927,g "CM_VT_HASH" 9 929,g "CM_CONCAT" 10 931,g "CM_STR_LENGTH" 11 933,g "CM_STR_CHARS" 12 935,g "CM_STR_EQ" 13 937,g "CM_STR_NE" 14 939,g "CM_STR_EQUALS" 15 941,
 g "CM_STR_HASH" 16 943,g "CM_STR_TOSTRING" 17 945,g "CM_SUBSTRING" 18 947,g "CM_INDEXOF" 19 949,g "CM_CONCAT_OBJ" 20 951,g "CM_EX_CTOR0" 21 953,g "CM_EX_CTOR1" 22 955,g "CM_EX_CTOR2" 23 957,
 g "CM_EX_MESSAGE" 24 959,g "CM_EX_INNER" 25 961,g "CM_EX_TOSTRING" 26 963,g "CM_EXCEPTIONS" 30 965,g "CM_COMBINE" 60 967,g "CM_REMOVE" 61 969,g "CM_DEL_EQ" 62 971,g "CM_DEL_NE" 63 973,
 g "CM_DEL_EQUALS" 64 975,g "CM_NUL_CTOR" 65 977,g "CM_NUL_HASVALUE" 66 979,g "CM_NUL_VALUE" 67 981,g "CM_NUL_ORDEFAULT" 68 983,g "CM_PRIMS" 70 985,g "CM_I4_COMPARE" 103 987,g "CM_I8_COMPARE" 104 989,
 g "CM_STR_COMPARE" 105 991,g "CM_DISPOSE" 106 993,g "CM_GETENUM" 107 995,g "CM_GETCURRENT" 108 997,g "CM_MOVENEXT" 109 999,g "CM_COMPARETO" 111 1001,g "CM_ACTION_CTOR" 112 1003,g "CM_ACTION1_CTOR" 114 1005,
 g "CM_FUNC1_CTOR" 116 1007,g "CM_FUNC2_CTOR" 118 1009,g "CM_FUNC3_CTOR" 120 1011,g "CM_PRED_CTOR" 122 1013,g "CM_WRITE_TEXT" 185 1015,g "CM_WRITE_I4" 186 1017,g "CM_WRITE_OBJ" 187 1019,g "CM_WRITE_BOOL" 188 1021,
 g "CM_WRITE_I8" 189 1023,g "CM_WRITE_CHAR" 190 1025,g "CM_COLLECT" 191 1027,g "CM_COLLECT_GEN" 192 1029,g "CM_SUPPRESS" 193 1031,g "CM_REREGISTER" 194 1033,g "CM_KEEPALIVE" 195 1035,g "CM_WAITFINAL" 196 1037,
 g "CM_WEAK_CTOR" 197 1039,g "CM_WEAK_TARGET" 198 1041,g "CM_WEAK_ALIVE" 199 1043,g "CM_TYPE_EQ" 200 1045,g "CM_TYPE_NE" 201 1047,g "CM_TYPE_FROM" 202 1049,g "CM_ARR_LENGTH" 203 1051,g "CM_END" 255 1053,
 g "S_CLASS" 1 1057,g "S_STRUCT" 2 1059,g "S_ENUM" 5 1061,g "VA_NONE" 0 1063,g "MF_STATIC" 1 1065,g "MF_VIRTUAL" 2 1067,g "MF_NEWSLOT" 4 1069,g "MF_ABSTRACT" 8 1071,
 g "MF_FINAL" 16 1073,g "MF_CTOR" 32 1075,g "MF_CCTOR" 64 1077,g "MF_SPECIAL" 128 1079,g "T_OBJECT" 1 1081,g "T_VALUETYPE" 2 1083,g "T_STRING" 4 1085,g "T_ARRAY" 5 1087,
 g "T_DELEGATE" 6 1089,g "T_EXCEPTION" 7 1091,g "T_NULLABLE" 8 1093,g "T_BOOL" 9 1095,g "T_I4" 15 1097,g "T_I8" 17 1099,g "T_NINT" 19 1101,g "T_NULLREF" 21 1103,
 g "T_INVALIDOP" 29 1105,g "T_NOTSUPP" 33 1107,g "T_DISPOSABLE" 34 1109,g "T_IENUM" 35 1111,g "T_IENUMERATOR" 36 1113,g "T_CONSOLE" 43 1115,g "T_ACTION" 44 1117,g "T_ACTION1" 45 1119,
 g "T_FUNC1" 46 1121,g "T_FUNC2" 47 1123,g "T_COMPARABLE" 48 1125,g "T_GC" 49 1127,g "T_WEAK" 50 1129,g "T_TYPE" 51 1131,g "T_FUNC3" 53 1133,g "T_PRED" 54 1135,
 r "TypeDef" 1190 227,r "FieldDef" 1230 248,r "MethodDef" 1278 269,r "Body" 1313 290,r "Store" 1347 311,r "plain_names" 1356 322,r "add_iface" 1366 329,r "put_field_at" 1380 336,
 r "kept_flags" 1387 343,r "put_method_at" 1403 350,r "note_method" 1413 357,r "set_body" 1429 364,r "set_native" 1438 371,r "put_once" 1446 378,r "add_prop" 1459 385,r "exception_ctor" 1467 392,
 r "prim_method" 1475 399,r "self_kind" 1486 406,r "kind_with" 1496 413,r "is_virtual" 1503 420,g "N_CONCAT" 1 1504,g "N_STR_LENGTH" 2 1506,g "N_STR_CHARS" 3 1508,g "N_STR_EQ" 4 1510,
 g "N_STR_EQUALS" 5 1512,g "N_STR_HASH" 6 1514,g "N_SUBSTRING" 7 1516,g "N_INDEXOF" 8 1518,g "N_STR_COMPARE" 9 1520,g "N_OBJ_TOSTRING" 10 1522,g "N_OBJ_HASH" 11 1524,g "N_OBJ_GETTYPE" 12 1526,
 g "N_VT_EQUALS" 13 1528,g "N_VT_HASH" 14 1530,g "N_COMBINE" 20 1532,g "N_REMOVE" 21 1534,g "N_DEL_EQ" 22 1536,g "N_DEL_HASH" 23 1538,g "N_DEL_CTOR" 25 1540,g "N_DEL_INVOKE" 26 1542,
 g "N_ARR_LENGTH" 27 1544,g "N_WRITE_TEXT" 28 1546,g "N_WRITE_I4" 29 1548,g "N_WRITE_BOOL" 30 1550,g "N_WRITE_I8" 31 1552,g "N_WRITE_CHAR" 32 1554,g "N_COLLECT" 33 1556,g "N_COLLECT_GEN" 34 1558,
 g "N_SUPPRESS" 35 1560,g "N_REREGISTER" 36 1562,g "N_WAITFINAL" 37 1564,g "N_NEW_HANDLE" 38 1566,g "N_HANDLE_TARGET" 39 1568,g "N_TYPE_FROM" 40 1570,g "N_PRIM" 64 1572,g "MARK" (-1) 1577,
 g "CM_NEW_HANDLE" 204 1579,g "CM_HANDLE_TARGET" 205 1581,g "CM_DEL_HASH" 207 1583,g "CM_NUL_TOSTRING" 208 1585,g "CM_NUL_EQUALS" 209 1587,g "CM_NUL_HASH" 210 1589,g "CM_TYPE_EQUALS" 211 1591,g "CM_TYPE_HASH" 212 1593,
 g "VIRT_NEW" 6 1595,g "VIRT_SEAL" 22 1598,g "VIRT_NONE" 14 1601,g "STATIC_OP" 129 1603,("TEXT_NO_VALUE",1606,S "Nullable object must have a value." 1605),r "settle" 1618 427,r "put_il" 1633 434,r "put_native" 1647 441,
 r "put_hidden" 1660 448,r "put_prop" 1674 455,r "plain_class" 1682 462,r "call_of" 1690 469,r "virt_of" 1698 476,r "install_core_object" 1706 483,r "negated" 1714 490,r "concat_rows" 1720 497,
 r "install_core_text" 1728 504,r "compare_rows" 1735 511,r "install_prim" 1745 518,r "install_core_prims" 1753 525,r "ex_field" 1761 532,r "message_rows" 1768 539,r "ex_text_rows" 1776 546,r "install_exception_ctors" 1788 553,
 r "install_exception_members" 1796 560,r "ctor_of" 1803 567,r "install_derived" 1814 574,r "install_core_exceptions" 1822 581,r "throw_rows" 1831 588,r "asked_value" 1841 595,r "install_nullable_overrides" 1850 602,r "install_core_nullable" 1862 609,
 r "put_delegate" 1873 616,r "install_core_delegates" 1883 623,r "put_abstract" 1896 630,r "install_core_ifaces" 1904 637,r "install_core_console" 1913 644,r "install_weak" 1924 651,r "install_core_gc" 1931 658,r "install_core_type" 1941 665,
 r "install_first" 1949 672,r "install_core" 1957 679,g "_law_RAW" (-2) 1961,r "_law_tids" 1968 684,r "_law_bodies" 1975 691,r "_law_world" 1994 698,r "_law_flat" 2001 705,r "_law_goes" 2010 712,
 r "_law_call" 2026 719,r "_law_op" 2042 726,r "_law_join" 2048 731,r "_law_body" 2054 736,r "_law_do" 2066 743,r "_law_one" 2073 750,r "_law_run" 2092 757,r "_law_cells" 2102 764,
 r "_law_wanted" 2123 771,r "_law_does" 2137 778,r "_law_stands" 2143 783,r "law" 2149 788]
noncomputable def gl (P:Params) (nm:Value):List DictEntry:=E P "__name__" 165 nm::List.rec [] (fun p _ ih=>E P p.1 p.2.1 p.2.2::ih) glB
noncomputable def nmL:List Str:=List.rec [] (fun p _ ih=>Str.ofString p.1::ih) (takeN 339 (dropN 8 glB))
noncomputable def dcL:List (Nat×Nat):=[(32,20),(37,40),(72,54),(121,89),(130,96),(134,103),(140,110),(162,117),(166,124),(170,131),(175,138),(179,145),(183,152),(187,159),(189,166),(191,173),(193,180),(202,187),(206,194),(223,209),(347,216),(373,237),(383,258),(400,279),(407,300),(417,321),(422,328),(426,335),(436,342),(440,349),(456,356),(464,363),(472,370),(474,377),(477,384),(479,391),(481,398),(483,405),(491,412),(496,419),(548,426),(564,433),(567,440),(570,447),(573,454),(578,461),(580,468),(582,475),(584,482),(598,489),(600,496),(602,503),(619,510),(621,517),(627,524),(634,531),(636,538),(638,545),(641,552),(650,559),(658,566),(662,573),(668,580),(675,587),(677,594),(680,601),(686,608),(701,615),(704,622),(723,629),(725,636),(734,643),(743,650),(756,657),(764,664),(774,671),(788,678),(806,683),(810,690),(812,697),(830,704),(834,711),(838,718),(860,725),(897,730),(910,735),(950,742),(960,749),(964,756),(1009,763),(1014,770),(1053,777),(1064,782),(1094,787)]
noncomputable def dcO (n:Nat):List Value:=List.rec [] (fun p _ ih=>I p.1 0::I 0 0::R p.2::ih) (takeN n dcL)
noncomputable def finO (P:Params) (s31:List Value) (dl:Nat) (g:List DictEntry) (e:Nat) (o2:Obj):List Obj:=boot_o_0 P::boot_o_1 P::o2::oD g e::boot_o_4 P::boot_o_5 P::boot_o_6 P::boot_o_7 P::boot_o_8 P::boot_o_9 P::boot_o_10 P::
 oT []::
 oF (dcO dl)::
 oC "<module>" "<module>" 182 1 11::
 frO 13 3 (S "__main__" 164)::
 oT [.type "Exception"]::
 prO::
 oD [E P "__module__" 256 (S "framerune.faults" 247),E P "__qualname__" 258 (S "RuneError" 257),E P "__firstlineno__" 260 (I 32 259),E P "__init__" 269 (R 28),E P "__static_attributes__" 272 (R 29)] 5::
 oT []::
 oF [I 34 0,I 4 0,R 27]::
 oC "RuneError" "RuneError" 251 32 18::
 frO 20 17 (S "framerune.faults" 247)::
 fM (S "framerune.faults" 247) "RuneError.__init__" 31 0 22 261 (oT [S "at" 270,S "code" 271]::
 oD [E P "__module__" 256 (S "framerune.faults" 247),E P "__firstlineno__" 260 (I 32 259),E P "__init__" 269 (R 28),E P "__static_attributes__" 272 (R 29),E P "__weakref__" 274 (R 32),E P "__doc__" 275 (.none)] 3::
 clO "RuneError" [.type "Exception"] [R 31,.type "Exception",.type "BaseException",.type "object"] 30 s31 (some (R 15)) 249 "Exception.__new__"::
 wgO 273 31::
 suO 31::
 isO 31::
 oT [R 31]::
 prO::
 oD [E P "__module__" 287 (S "framerune.faults" 247),E P "__qualname__" 289 (S "BadKind" 288),E P "__firstlineno__" 291 (I 37 290),E P "__static_attributes__" 292 (R 42)] 4::
 oT []::
 oF []::
 oC "BadKind" "BadKind" 282 37 38::
 frO 40 37 (S "framerune.faults" 247)::
 oT []::
 oD [E P "__module__" 287 (S "framerune.faults" 247),E P "__firstlineno__" 291 (I 37 290),E P "__static_attributes__" 292 (R 42),E P "__doc__" 293 (.none)] 2::
 clO "BadKind" [R 31] [R 44,R 31,.type "Exception",.type "BaseException",.type "object"] 43 [] (some (R 35)) 280 "Exception.__new__"::
 suO 44::
 isO 44::
 oD [K 0 298 (I 20 356),K 1 300 (I 9 357),K 2 302 (I 10 358),K 3 304 (I 11 359),K 4 306 (I 12 360),K 5 308 (I 13 361),K 6 310 (I 14 362),K 7 312 (I 15 363),K 8 314 (I 16 364),K 9 316 (I 17 365),K 10 318 (I 18 366),K 11 320 (I 19 367),K 12 322 (I 1 368),K 13 324 (I 4 369)] 14::
 oD [K 20 385 (I 0 298),K 9 386 (I 1 300),K 10 387 (I 2 302),K 11 388 (I 3 304),K 12 389 (I 4 306),K 13 390 (I 5 308),K 14 391 (I 6 310),K 15 392 (I 7 312),K 16 393 (I 8 314),K 17 394 (I 9 316),K 18 395 (I 10 318),K 19 396 (I 11 320),K 1 397 (I 12 322),K 4 398 (I 13 324)] 14::
 oT []::
 prO::
 oD [E P "__module__" 423 (S "framerune.kinds" 296),E P "__qualname__" 425 (S "KindTable" 424),E P "__firstlineno__" 427 (I 72 426),E P "__init__" 436 (R 62),E P "row" 444 (R 69),E P "put" 459 (R 76),E P "__static_attributes__" 465 (R 77)] 7::
 oT []::
 oF [I 74 0,I 4 0,R 61,I 88 0,I 4 0,R 68,I 93 0,I 4 0,R 75]::
 oC "KindTable" "KindTable" 418 72 52::
 frO 54 51 (S "framerune.kinds" 296)::
 fM (S "framerune.kinds" 296) "KindTable.__init__" 66 0 56 428 (fM (S "framerune.kinds" 296) "KindTable.row" 66 1 63 437 (fM (S "framerune.kinds" 296) "KindTable.put" 66 2 70 445 (oT [S "depths" 460,S "index" 461,S "opens" 462,S "rows" 463,S "weights" 464]::
 oD [E P "__module__" 423 (S "framerune.kinds" 296),E P "__firstlineno__" 427 (I 72 426),E P "__init__" 436 (R 62),E P "row" 444 (R 69),E P "put" 459 (R 76),E P "__static_attributes__" 465 (R 77),E P "__dict__" 467 (R 80),E P "__weakref__" 469 (R 81),E P "__doc__" 470 (.none)] 4::
 clO "KindTable" [.type "object"] [R 79,.type "object"] 78 [] none 416 "object.__new__"::
 dgO 466 79::
 wgO 468 79::
 suO 79::
 isO 79::
 fR (S "framerune.kinds" 296) (takeN 16 (dropN 67 btm)) 84 473 (oD soE 126::
 soO 1 17::
 soO 2 17::
 soO 3 17::
 soO 4 17::
 soO 5 17::
 soO 6 17::
 soO 7 7::
 fR (S "framerune.ops" 607) (takeN 1 (dropN 97 btm)) 204 886 (kO P (S "framerune.store" 1055) "TypeDef" "TypeDef.__init__" 347 220 211 1139 ["asm","base","bounds","cctor","events","fields","finaliser","flags","home","ifaces","impls","methods","name","params","props","sort","tid","under","variances"] (kO P (S "framerune.store" 1055) "FieldDef" "FieldDef.__init__" 373 221 232 1193 ["access","fid","flags","kind","name","owner","value"] (kO P (S "framerune.store" 1055) "MethodDef" "MethodDef.__init__" 383 222 253 1233 ["access","body","flags","gbounds","gnames","mid","name","native","ngen","owner","params","pflags","pnames","ret"] (kO P (S "framerune.store" 1055) "Body" "Body.__init__" 400 223 274 1281 ["clauses","code","locals_","maxstack"] (kO P (S "framerune.store" 1055) "Store" "Store.__init__" 407 224 295 1316 ["asms","entry","fields_","kt","methods","names","types"] (fR (S "framerune.store" 1055) (takeN 15 (dropN 225 btm)) 316 1348 (fR (S "framerune.corelib" 1574) (takeN 37 (dropN 290 btm)) 421 1607 (fR (S "law_xm0345_01" 1958) (takeN 17 (dropN 329 btm)) 680 1963 ([]))))))))))))))
noncomputable def o7 (P:Params):Obj:=oE [E P "type.__subclasses__.Exception.0" 276 (I 31 0),E P "type.__subclasses__.Exception.n" 277 (I 1 0)] 2
noncomputable def altN (l:List Obj):Bool→List Obj:=List.rec (fun _=>[]) (fun x _ ih b=>Bool.rec (ih true) (x::ih false) b) l
noncomputable def btN (n:Nat):List Obj→BT:=Nat.rec (motive:=fun _=>List Obj→BT) (fun _=>.nil) (fun _ ih l=>List.casesOn l .nil fun x r=>.node x (ih (altN r true)) (ih (altN r false))) n
noncomputable def stL (P:Params) (nm:Value) (g e dl n:Nat):List Obj:=takeN n (finO P (Bool.rec [] [R 44] (Nat.ble 45 n)) dl (takeN g (gl P nm)) e (Bool.rec (boot_o_2 P) (o7 P) (Nat.ble 32 n)))
noncomputable def gtO (t:BT) (a:Nat):Obj:=Option.casesOn (t.get a) default fun o=>o
noncomputable def stT (nm:Value) (g e dl n t:Nat) (w:World) (os:OsState):SharedT:={ tree:=btN 11 (stL w.params nm g e dl n),n:=n,life:={},gens:=⟨[]⟩,drawn:={},toks:=t,os:=os }
noncomputable def env1:Env:={ scope:=pw.main.scope,locals:=mainNs,globals:=mainNs,cells:=[],code:=.ref 13,frame:=some 14 }
end
end Mine.Hd
namespace Mine
noncomputable section
noncomputable abbrev pw:Program:=PySem.Challenge.pw_xm0345_01
noncomputable def cdP:Code:=.body (behindTheImports pw) Hd.env1
noncomputable def PcP (n:Nat) (S S':World→OsState→SharedT) (k m:Nat) (p p':Pos) (w:World):Prop:=∀ os:OsState,segRunT treeTable pw w 11 (some (.ref 6)) 1 n (S w os) (piecesOf (Hd.takeN m (Hd.dropN k Hd.btm)) Hd.env1 cdP p [topFrame ⟨0,0,0,0⟩])=some (.next,S' w os,cdP,p')
theorem PcP.mk {n:Nat} {S S':World→OsState→SharedT} {k m:Nat} {p p':Pos} {w:World} (h:∀ os:OsState,PySem.W.Fast.tw10110043849684766642 PySem.W.Fast.tw14364793385576792824 pw w 11 (some (.ref 6)) 1 n (S w os) (piecesOf (Hd.takeN m (Hd.dropN k Hd.btm)) Hd.env1 cdP p [topFrame ⟨0,0,0,0⟩])=some (.next,S' w os,cdP,p')):PcP n S S' k m p p' w:=by
 intro os
 rw [PySem.W.Fast.te10110043849684766642,PySem.W.Fast.te14364793385576792824]; exact h os
theorem pc_0 (w:World):PcP 280 (Hd.stT (Hd.S "__main__" 164) 9 9 0 15 187) (Hd.stT (Hd.S "framerune.faults" 247) 39 39 0 15 249) 0 31 ⟨0,0,0,0⟩ ⟨31,0,31,8⟩ w:=.mk fun os=>by kernel_rfl
theorem pc_1 (w:World):PcP 231 (Hd.stT (Hd.S "framerune.faults" 247) 39 39 0 15 249) (Hd.stT (Hd.S "framerune.faults" 247) 40 40 1 35 280) 31 1 ⟨31,0,31,8⟩ ⟨32,0,36,20⟩ w:=.mk fun os=>by kernel_rfl
theorem pc_2 (w:World):PcP 394 (Hd.stT (Hd.S "framerune.faults" 247) 40 40 1 35 280) (Hd.stT (Hd.S "framerune.kinds" 296) 60 60 2 47 336) 32 21 ⟨32,0,36,20⟩ ⟨58,0,58,7⟩ w:=.mk fun os=>by kernel_rfl
theorem pc_3f (w:World):PcP 297 (Hd.stT (Hd.S "framerune.kinds" 296) 60 60 2 47 336) (Hd.stT (Hd.S "framerune.kinds" 296) 71 71 2 48 385) 53 11 ⟨58,0,58,7⟩ ⟨69,0,69,8⟩ (w.withFollow "special-get-raises" false):=.mk fun os=>by kernel_rfl
theorem pc_3t (w:World):PcP 297 (Hd.stT (Hd.S "framerune.kinds" 296) 60 60 2 47 336) (Hd.stT (Hd.S "framerune.kinds" 296) 71 71 2 48 385) 53 11 ⟨58,0,58,7⟩ ⟨69,0,69,8⟩ (w.withFollow "special-get-raises" true):=.mk fun os=>by kernel_rfl
theorem pc_3 (w:World):PcP 297 (Hd.stT (Hd.S "framerune.kinds" 296) 60 60 2 47 336) (Hd.stT (Hd.S "framerune.kinds" 296) 71 71 2 48 385) 53 11 ⟨58,0,58,7⟩ ⟨69,0,69,8⟩ w:=byRow2 "special-get-raises" pc_3f pc_3t w
theorem pc_4f (w:World):PcP 216 (Hd.stT (Hd.S "framerune.kinds" 296) 71 71 2 48 385) (Hd.stT (Hd.S "framerune.kinds" 296) 73 73 2 49 416) 64 2 ⟨69,0,69,8⟩ ⟨71,0,71,9⟩ (w.withFollow "special-get-raises" false):=.mk fun os=>by kernel_rfl
theorem pc_4t (w:World):PcP 216 (Hd.stT (Hd.S "framerune.kinds" 296) 71 71 2 48 385) (Hd.stT (Hd.S "framerune.kinds" 296) 73 73 2 49 416) 64 2 ⟨69,0,69,8⟩ ⟨71,0,71,9⟩ (w.withFollow "special-get-raises" true):=.mk fun os=>by kernel_rfl
theorem pc_4 (w:World):PcP 216 (Hd.stT (Hd.S "framerune.kinds" 296) 71 71 2 48 385) (Hd.stT (Hd.S "framerune.kinds" 296) 73 73 2 49 416) 64 2 ⟨69,0,69,8⟩ ⟨71,0,71,9⟩ w:=byRow2 "special-get-raises" pc_4f pc_4t w
theorem pc_5 (w:World):PcP 387 (Hd.stT (Hd.S "framerune.kinds" 296) 73 73 2 49 416) (Hd.stT (Hd.S "framerune.kinds" 296) 77 77 6 105 495) 66 4 ⟨71,0,71,9⟩ ⟨134,0,139,12⟩ w:=.mk fun os=>by kernel_rfl
theorem pc_6 (w:World):PcP 399 (Hd.stT (Hd.S "framerune.kinds" 296) 77 77 6 105 495) (Hd.stT (Hd.S "framerune.kinds" 296) 90 90 19 196 607) 70 13 ⟨134,0,139,12⟩ ⟨206,0,208,42⟩ w:=.mk fun os=>by kernel_rfl
theorem pc_7 (w:World):PcP 118 (Hd.stT (Hd.S "framerune.kinds" 296) 90 90 19 196 607) (Hd.stT (Hd.S "framerune.ops" 607) 102 102 19 196 633) 83 13 ⟨206,0,208,42⟩ ⟨221,0,221,8⟩ w:=.mk fun os=>by kernel_rfl
theorem pc_8f (w:World):PcP 2478 (Hd.stT (Hd.S "framerune.ops" 607) 102 102 19 196 633) (Hd.stT (Hd.S "framerune.ops" 607) 103 103 19 204 886) 96 1 ⟨221,0,221,8⟩ ⟨222,0,222,7⟩ (w.withFollow "special-get-raises" false):=.mk fun os=>by kernel_rfl
theorem pc_8t (w:World):PcP 2478 (Hd.stT (Hd.S "framerune.ops" 607) 102 102 19 196 633) (Hd.stT (Hd.S "framerune.ops" 607) 103 103 19 204 886) 96 1 ⟨221,0,221,8⟩ ⟨222,0,222,7⟩ (w.withFollow "special-get-raises" true):=.mk fun os=>by kernel_rfl
theorem pc_8 (w:World):PcP 2478 (Hd.stT (Hd.S "framerune.ops" 607) 102 102 19 196 633) (Hd.stT (Hd.S "framerune.ops" 607) 103 103 19 204 886) 96 1 ⟨221,0,221,8⟩ ⟨222,0,222,7⟩ w:=byRow2 "special-get-raises" pc_8f pc_8t w
theorem pc_9 (w:World):PcP 399 (Hd.stT (Hd.S "framerune.ops" 607) 103 103 19 204 886) (Hd.stT (Hd.S "framerune.ops" 607) 145 145 20 211 975) 97 42 ⟨222,0,222,7⟩ ⟨265,0,265,9⟩ w:=.mk fun os=>by kernel_rfl
theorem pc_10 (w:World):PcP 397 (Hd.stT (Hd.S "framerune.ops" 607) 145 145 20 211 975) (Hd.stT (Hd.S "framerune.store" 1055) 188 188 20 211 1063) 139 44 ⟨265,0,265,9⟩ ⟨309,0,309,6⟩ w:=.mk fun os=>by kernel_rfl
theorem pc_11 (w:World):PcP 334 (Hd.stT (Hd.S "framerune.store" 1055) 188 188 20 211 1063) (Hd.stT (Hd.S "framerune.store" 1055) 225 225 20 211 1137) 183 37 ⟨309,0,309,6⟩ ⟨346,0,346,6⟩ w:=.mk fun os=>by kernel_rfl
theorem pc_12 (w:World):PcP 248 (Hd.stT (Hd.S "framerune.store" 1055) 225 225 20 211 1137) (Hd.stT (Hd.S "framerune.store" 1055) 226 226 21 232 1191) 220 1 ⟨346,0,346,6⟩ ⟨347,0,372,21⟩ w:=.mk fun os=>by kernel_rfl
theorem pc_13 (w:World):PcP 234 (Hd.stT (Hd.S "framerune.store" 1055) 226 226 21 232 1191) (Hd.stT (Hd.S "framerune.store" 1055) 227 227 22 253 1231) 221 1 ⟨347,0,372,21⟩ ⟨373,0,382,25⟩ w:=.mk fun os=>by kernel_rfl
theorem pc_14 (w:World):PcP 242 (Hd.stT (Hd.S "framerune.store" 1055) 227 227 22 253 1231) (Hd.stT (Hd.S "framerune.store" 1055) 228 228 23 274 1279) 222 1 ⟨373,0,382,25⟩ ⟨383,0,399,23⟩ w:=.mk fun os=>by kernel_rfl
theorem pc_15 (w:World):PcP 229 (Hd.stT (Hd.S "framerune.store" 1055) 228 228 23 274 1279) (Hd.stT (Hd.S "framerune.store" 1055) 229 229 24 295 1314) 223 1 ⟨383,0,399,23⟩ ⟨400,0,406,30⟩ w:=.mk fun os=>by kernel_rfl
theorem pc_16 (w:World):PcP 394 (Hd.stT (Hd.S "framerune.store" 1055) 229 229 24 295 1314) (Hd.stT (Hd.S "framerune.store" 1055) 235 235 30 351 1404) 224 6 ⟨400,0,406,30⟩ ⟨440,0,455,14⟩ w:=.mk fun os=>by kernel_rfl
theorem pc_17 (w:World):PcP 393 (Hd.stT (Hd.S "framerune.store" 1055) 235 235 30 351 1404) (Hd.stT (Hd.S "framerune.store" 1055) 253 253 40 421 1520) 230 18 ⟨440,0,455,14⟩ ⟨505,0,505,9⟩ w:=.mk fun os=>by kernel_rfl
theorem pc_18 (w:World):PcP 380 (Hd.stT (Hd.S "framerune.store" 1055) 253 253 40 421 1520) (Hd.stT (Hd.S "framerune.corelib" 1574) 291 291 40 421 1600) 248 39 ⟨505,0,505,9⟩ ⟨544,0,544,9⟩ w:=.mk fun os=>by kernel_rfl
theorem pc_19 (w:World):PcP 379 (Hd.stT (Hd.S "framerune.corelib" 1574) 291 291 40 421 1600) (Hd.stT (Hd.S "framerune.corelib" 1574) 304 304 50 491 1715) 287 13 ⟨544,0,544,9⟩ ⟨598,0,599,104⟩ w:=.mk fun os=>by kernel_rfl
theorem pc_20 (w:World):PcP 395 (Hd.stT (Hd.S "framerune.corelib" 1574) 304 304 50 491 1715) (Hd.stT (Hd.S "framerune.corelib" 1574) 317 317 63 582 1823) 300 13 ⟨598,0,599,104⟩ ⟨668,0,674,35⟩ w:=.mk fun os=>by kernel_rfl
theorem pc_21 (w:World):PcP 384 (Hd.stT (Hd.S "framerune.corelib" 1574) 317 317 63 582 1823) (Hd.stT (Hd.S "framerune.corelib" 1574) 329 329 75 666 1942) 313 12 ⟨668,0,674,35⟩ ⟨764,0,773,102⟩ w:=.mk fun os=>by kernel_rfl
theorem pc_22 (w:World):PcP 368 (Hd.stT (Hd.S "framerune.corelib" 1574) 329 329 75 666 1942) (Hd.stT (Hd.S "law_xm0345_01" 1958) 341 341 86 737 2055) 325 13 ⟨764,0,773,102⟩ ⟨910,0,949,97⟩ w:=.mk fun os=>by kernel_rfl
theorem pc_23 (w:World):PcP 268 (Hd.stT (Hd.S "law_xm0345_01" 1958) 341 341 86 737 2055) (Hd.stT (Hd.S "law_xm0345_01" 1958) 349 349 94 789 2150) 338 8 ⟨910,0,949,97⟩ ⟨1094,0,1119,15⟩ w:=.mk fun os=>by kernel_rfl
end
end Mine
namespace Mine
theorem take_app {α:Type} (m:Nat):∀ l:List α,Hd.takeN m l ++ Hd.dropN m l=l:=by
 induction m with
 | zero=>exact fun _=>rfl
 | succ m ih=>intro l; induction l using List.casesOn with
  | nil=>rfl
  | cons x r=>exact congrArg (x::·) (ih r)
theorem dropN_nil {α:Type} (m:Nat):Hd.dropN m ([]:List α)=[]:=by cases m <;> rfl
theorem drop_add {α:Type} (k m:Nat):∀ l:List α,Hd.dropN m (Hd.dropN k l)=Hd.dropN (k + m) l:=by
 induction k with
 | zero=>intro l; rw [Nat.zero_add]; rfl
 | succ k ih=>
  intro l
  rw [Nat.succ_add]
  induction l using List.casesOn with
  | nil=>exact dropN_nil m
  | cons x r=>exact ih r
noncomputable abbrev pos0:Pos:=⟨0,0,0,0⟩
noncomputable def TopP (N:Nat) (S:World→OsState→SharedT) (k:Nat) (p:Pos) (w:World) (os:OsState) (r:Shared):Prop:=topRun treeTable pw w 11 (some (.ref 6)) N (S w os).abs (restOf (Hd.dropN k Hd.btm) Hd.env1 cdP p [topFrame pos0])=some r
theorem PcP.step {n N k m:Nat} {S S':World→OsState→SharedT} {p p':Pos} {w:World} {os:OsState} {r:Shared} (h:PcP n S S' k m p p' w) (t:TopP N S' (k + m) p' w os r):TopP (N + n) S k p w os r:=by
 have t':topRun treeTable pw w 11 (some (.ref 6)) N (S' w os).abs (restOf (Hd.dropN (k + m) Hd.btm) Hd.env1 cdP p' [topFrame pos0])=some r:=t
 rw [← drop_add] at t'
 have q:=piece_app (segRun_of (h os)) t'
 rw [take_app,Nat.add_comm] at q
 exact q
noncomputable section
noncomputable def tH (P:Params):BT:=Hd.btN 11 (Hd.stL P (Hd.S "law_xm0345_01" 1958) 349 349 94 789)
noncomputable def H1 (P:Params):Heap:=absHeap (tH P) 789 {}
noncomputable def sT0:World→OsState→SharedT:=Hd.stT (Hd.S "__main__" 164) 9 9 0 15 187
noncomputable def sTe:World→OsState→SharedT:=Hd.stT (Hd.S "law_xm0345_01" 1958) 349 349 94 789 2150
theorem drop_all:Hd.dropN 346 Hd.btm=[]:=by kernel_rfl
theorem end_p (w:World) (os:OsState):TopP 2 sTe 346 ⟨1094,0,1119,15⟩ w os (sTe w os).abs:=by
 unfold TopP
 rw [drop_all]
 kernel_rfl
theorem chain_p (w:World) (os:OsState):TopP 9846 sT0 0 pos0 w os (sTe w os).abs:=
 (pc_0 w).step <| (pc_1 w).step <| (pc_2 w).step <| (pc_3 w).step <| (pc_4 w).step <| (pc_5 w).step <| (pc_6 w).step <| (pc_7 w).step <| (pc_8 w).step <| (pc_9 w).step <| (pc_10 w).step <| (pc_11 w).step <| (pc_12 w).step <| (pc_13 w).step <| (pc_14 w).step <| (pc_15 w).step <| (pc_16 w).step <| (pc_17 w).step <| (pc_18 w).step <| (pc_19 w).step <| (pc_20 w).step <| (pc_21 w).step <| (pc_22 w).step <| (pc_23 w).step <| end_p w os
theorem run_all:∃ M,Nat.ble M 20000=true∧∀ (w:World) (os:OsState),topRun treeTable pw w 11 (some (.ref 6)) M ⟨boot_heap w.params,Array.mk [],boot_drawn,boot_toks,os⟩ (topStub pw)=some ⟨H1 w.params,Array.mk [],{},2150,os⟩:=
 ⟨_,by decide,fun w os=>go_top (n:=12) (s':=(sT0 w os).abs) (t':=⟨denote treeTable cdP,cdP,pos0,[topFrame pos0]⟩) (by kernel_rfl) (piece_block (n:=1) (s':=(sT0 w os).abs) (p':=pos0) (c:=cdP) (by kernel_rfl) (chain_p w os))⟩
end
end Mine
namespace Mine
noncomputable def tagR (r:R):Nat:=R.rec (motive:=fun _=>Nat) (fun _ _=>0) (fun _ _=>1) (fun _ _=>2) (fun _ _=>3) 4 r
noncomputable def tagV (v:V):Nat:=V.rec (motive:=fun _=>Nat) 0 (fun _=>1) (fun _=>2) (fun _=>3) 4 (fun _=>5) (fun _=>6) (fun _=>7) (fun _=>8) 9 10 11 (fun _ _ _ _=>12) v
noncomputable def tagOp {α:Type} (o:Option α):Nat:=Option.rec (motive:=fun _=>Nat) 0 (fun _=>1) o
noncomputable def tagLi {α:Type} (o:List α):Nat:=List.rec (motive:=fun _=>Nat) 0 (fun _ _ _=>1) o
noncomputable def tagBo (b:Bool):Nat:=Bool.rec (motive:=fun _=>Nat) 0 1 b
theorem beq_no {a:Nat} {G:Prop} (h:Nat.beq a a=false):G:=absurd (Nat.beq_refl a) (by rw [h]; exact Bool.false_ne_true)
theorem tX {α:Type} (f:α→Nat) {a b:α} {G:Prop} (e:a=b) (h:Nat.beq (f a) (f b)=false):G:=by subst e; exact beq_no h
theorem rX {a b:R} {G:Prop} (e:a=b) (h:Nat.beq (tagR a) (tagR b)=false:=by rfl):G:=tX tagR e h
theorem oX {α:Type} {a b:Option α} {G:Prop} (e:a=b) (h:Nat.beq (tagOp a) (tagOp b)=false:=by rfl):G:=tX tagOp e h
theorem bX {a b:Bool} {G:Prop} (e:a=b) (h:Nat.beq (tagBo a) (tagBo b)=false:=by rfl):G:=tX tagBo e h
theorem vX {a b:V} {G:Prop} (e:a=b) (h:Nat.beq (tagV a) (tagV b)=false:=by rfl):G:=tX tagV e h
theorem lX {α:Type} {a b:List α} {G:Prop} (e:a=b) (h:Nat.beq (tagLi a) (tagLi b)=false:=by rfl):G:=tX tagLi e h
theorem ft {α:Prop} (h:false=true):α:=bX h
theorem tf {α:Prop} (h:true=false):α:=bX h
theorem pL {P:Prop} (h:∀ G:Prop,(P→G)→G):P:=h P id
end Mine
namespace Mine
inductive KD where
 | int (i:Int) | str (x:Str) | tn | tc (x r:KD)
 deriving DecidableEq
noncomputable def KD.w2:KD→WData×List WData
 | .int i=>(.int i,[])
 | .str x=>(.str x,[])
 | .tn=>(.tuple [],[])
 | .tc x r=>(.tuple (x.w2.1::r.w2.2),x.w2.1::r.w2.2)
noncomputable def KD.nest:KD→Nat
 | .int _=>0
 | .str _=>0
 | .tn=>1
 | .tc x r=>max (x.nest + 1) r.nest
noncomputable def KD.txt:KD→Bool
 | .int _=>true
 | .str x=>PyData.strOk x
 | .tn=>true
 | .tc x r=>x.txt && r.txt
noncomputable def KD.good (k:KD):Prop:=k.nest≤6∧k.txt=true
structure Pm where
 prog:Program
 w:World
 K:Frag
 io:Nat→Int
 raw:Nat→Int
 ka:Nat→Int
 nm:Nat→Str
 gv:Nat→Value
 ca:Nat→Addr
 fa:Nat→Addr
 kt:Nat→O
noncomputable def KD.hash (P:Pm) (k:KD):Int:=hashW P.w.params k.w2.1
noncomputable def SI.val (P:Pm):SI→Int
 | .n k c=>Int.fdiv (P.io k) c
 | .r k c m a b=>a + b * Int.fmod (Int.fdiv (P.io k) c) m
 | .p k c m xs=>xs.getD (Int.fmod (Int.fdiv (P.io k) c) m).toNat 0
 | .raw k=>P.raw k
structure POk (P:Pm):Prop where
 io:∀ k,P.io k=Int.fmod (P.raw k) 1000000007
 ka0:∀ j,16≤P.ka j
 kai:∀ i j,P.ka i=P.ka j→i=j
 nmi:∀ i j,P.nm i=P.nm j→i=j
 nml:∀ i,i < 1000→(P.nm i).length≤1000
 nmk:∀ i,PyData.strOk (P.nm i)=true
noncomputable abbrev tupO (ys:List Value):Obj:={ cls:=.type "tuple",data:=.seq ys.toArray }
noncomputable abbrev rngO (lo hi:Value) (v:Tok):Obj:={ cls:=.type "range",data:=.fields #[lo,hi,.int 1 v] }
structure Wd where
 si:Nat→Addr
 ns:List (Addr×Obj)
mutual
noncomputable def RV (P:Pm) (W:Wd) (n:Nat):V→Value→Prop
 | .none,v=>v=.none
 | .bool b,v=>v=.bool b
 | .int i,v=>∃ t,v=.int i t
 | .str k,v=>∃ t,v=.str (P.nm k) t
 | .dyn,v=>∃ x t,v=.str x t∧x.length≤1000
 | .ref a,v=>a < n∧v=.ref (W.si a)
 | .glb g,v=>v=P.gv g
 | .si e,v=>∃ t,v=.int (e.val P) t
 | .kd j,v=>∃ t,v=.int (P.ka j) t
 | .bad,_=>True
 | .ub,_=>False
 | .tn,v=>∃ b,v=.ref b∧(b,tupO [])∈W.ns
 | .tc x r,v=>∃ b y ys,v=.ref b∧(b,tupO (y::ys))∈W.ns∧RV P W n x y∧RT P W n r ys
noncomputable def RT (P:Pm) (W:Wd) (n:Nat):V→List Value→Prop
 | .tn,ys=>ys=[]
 | .tc x r,ys=>∃ y zs,ys=y::zs∧RV P W n x y∧RT P W n r zs
 | .none,_=>False
 | .bool _,_=>False
 | .int _,_=>False
 | .str _,_=>False
 | .dyn,_=>False
 | .ref _,_=>False
 | .glb _,_=>False
 | .si _,_=>False
 | .kd _,_=>False
 | .bad,_=>False
 | .ub,_=>False
end
inductive RVs (P:Pm) (W:Wd) (n:Nat):List V→List Value→Prop
 | nil:RVs P W n [] []
 | cons {x v xs vs}:RV P W n x v→RVs P W n xs vs→RVs P W n (x::xs) (v::vs)
noncomputable def kdOf (P:Pm):V→Option KD
 | .int i=>some (.int i)
 | .kd j=>some (.int (P.ka j))
 | .str k=>some (.str (P.nm k))
 | .tn=>some .tn
 | .tc x r=>(kdOf P x).bind fun a=>(kdOf P r).map fun b=>.tc a b
 | _=>none
noncomputable abbrev Row3:=KD×Value×Value
noncomputable def ent (P:Pm) (r:Row3):DictEntry:=⟨r.1.hash P,r.2.1,r.2.2⟩
inductive RD (P:Pm) (W:Wd) (n:Nat):List (V×V)→List Row3→Prop
 | nil:RD P W n [] []
 | cons {k x c key v es ds}:kdOf P k=some c→RV P W n k key→RV P W n x v→RD P W n es ds→RD P W n ((k,x)::es) ((c,key,v)::ds)
inductive RN (P:Pm) (W:Wd) (n:Nat):List (Nat×V)→List DictEntry→Prop
 | nil:RN P W n [] []
 | cons {k x h t v es ds}:RV P W n x v→RN P W n es ds→RN P W n ((k,x)::es) (⟨h,.str (P.nm k) t,v⟩::ds)
noncomputable def KD.isI:KD→Bool
 | .int _=>true
 | _=>false
noncomputable def KD.isS:KD→Bool
 | .str _=>true
 | _=>false
noncomputable def KD.isT:KD→Bool
 | .tn=>true
 | .tc _ _=>true
 | _=>false
noncomputable def Uni (ks:List KD):Prop:=(∀ k∈ks,k.isI=true)∨(∀ k∈ks,k.isS=true)∨(∀ k∈ks,k.isT=true)
structure DOk (P:Pm) (W:Wd) (n:Nat) (es:List (V×V)) (xs:List Row3):Prop where
 rd:RD P W n es xs
 nod:(xs.map (·.1)).Nodup
 uni:Uni (xs.map (·.1))
 len:xs.length≤1000
 good:∀ k∈xs.map (·.1),k.good
noncomputable def RO1 (P:Pm) (W:Wd) (n:Nat) (o:O) (a:Addr):Prop:=match o with
 | .list k t=>∃ its ep,(a,listOf its ep)∈W.ns∧its.size=k∧k≤100000∧∀ i v,i < k→t.get i=some v→∃ x,its[i]?=some x∧RV P W n v x
 | .dict es=>∃ xs ep,(a,dictOf (xs.map (ent P)) ep)∈W.ns∧DOk P W n es xs
 | .inst c d=>d < n∧(a,instObj (P.ca c) (W.si d))∈W.ns
 | .ns es=>∃ ds ep,(a,dictOf ds ep)∈W.ns∧RN P W n es ds∧ds.length≤1000
 | .rng lo hi=>∃ t u v,(a,rngO (.int lo t) (.int hi u) v)∈W.ns
 | .kt _=>False
noncomputable def Pm.un (P:Pm):O→O
 | .kt st=>P.kt st
 | o=>o
noncomputable def RO (P:Pm) (W:Wd) (n:Nat) (o:O) (a:Addr):Prop:=RO1 P W n (P.un o) a
structure Rel (P:Pm) (W:Wd) (h:Hp):Prop where
 nod:(W.ns.map (·.1)).Nodup
 inj:∀ a b,a < h.n→b < h.n→W.si a=W.si b→a=b
 obj:∀ a o,h.t.get a=some o→a < h.n∧RO P W h.n o (W.si a)
 dom:∀ a,a < h.n→W.si a∈W.ns.map (·.1)
 res:∀ p∈h.rs,Int.fmod (Int.fdiv (P.io p.1.1) p.1.2.1) p.1.2.2=p.2
 wr:∀ a∈h.wr,a < h.n
 low:∀ p∈W.ns,sysModules < p.1
 non:W.ns≠[]
 lid:h.n≤16000000
noncomputable def Imm (o:Obj):Prop:=(∃ ys,o=tupO ys)∨∃ y,o.data=.cell (some y)
theorem ni_dict {o:Obj} {es:Array DictEntry} {ep:Nat} (hd:o.data=.dict es ep):¬ Imm o:=by
 rintro (⟨ys,rfl⟩ | ⟨y,e⟩)
 ·cases hd
 ·rw [hd] at e; cases e
theorem ni_cls {o:Obj} {T:String} (hc:o.cls=.type T) (ht:T≠"tuple") (hd:∀ y,o.data≠.cell (some y)):¬ Imm o:=by
 rintro (⟨ys,rfl⟩ | ⟨y,e⟩)
 ·have hc:Value.type "tuple"=Value.type T:=hc
  injection hc with hc
  exact ht hc.symm
 ·exact hd y e
structure Le (W W':Wd) (n n':Nat):Prop where
 le:n≤n'
 si:∀ a,a < n→W'.si a=W.si a
 imm:∀ b o,Imm o→(b,o)∈W.ns→(b,o)∈W'.ns
theorem Le.tup {W W':Wd} {n n':Nat} (L:Le W W' n n') (b:Addr) (ys:List Value) (m:(b,tupO ys)∈W.ns):(b,tupO ys)∈W'.ns:=L.imm b _ (.inl ⟨ys,rfl⟩) m
theorem Le.refl (W:Wd) (n:Nat):Le W W n n:=⟨Nat.le_refl _,fun _ _=>rfl,fun _ _ _ h=>h⟩
theorem Le.trans {W W' W'':Wd} {n n' n'':Nat} (a:Le W W' n n') (b:Le W' W'' n' n''):Le W W'' n n'':=
 ⟨Nat.le_trans a.le b.le,fun x h=>(b.si x (Nat.lt_of_lt_of_le h a.le)).trans (a.si x h),fun b' o i h=>b.imm _ _ i (a.imm _ _ i h)⟩
variable {P:Pm} {W W':Wd} {n n':Nat}
theorem rv_mono2 (L:Le W W' n n') (x:V):(∀ v,RV P W n x v→RV P W' n' x v)∧(∀ ys,RT P W n x ys→RT P W' n' x ys):=by
 induction x with
 | tc x r ix ir=>
  refine ⟨fun v h=>?_,fun ys h=>?_⟩
  ·simp only [RV] at h ⊢
   obtain ⟨b,y,ys,rfl,hm,h1,h2⟩:=h
   exact ⟨b,y,ys,rfl,L.tup _ _ hm,ix.1 _ h1,ir.2 _ h2⟩
  ·simp only [RT] at h ⊢
   refine pL fun G0 hG0=>?_
   obtain ⟨y,zs,rfl,h1,h2⟩:=h
   refine hG0 ?_
   exact ⟨y,zs,rfl,ix.1 _ h1,ir.2 _ h2⟩
 | tn=>
  refine ⟨fun v h=>?_,fun ys h=>by simpa only [RT] using h⟩
  simp only [RV] at h ⊢
  obtain ⟨b,rfl,hm⟩:=h
  exact ⟨b,rfl,L.tup _ _ hm⟩
 | ref a=>
  refine ⟨fun v h=>?_,fun ys h=>by simp only [RT] at h⟩
  simp only [RV] at h ⊢
  exact ⟨Nat.lt_of_lt_of_le h.1 L.le,by rw [L.si a h.1]; exact h.2⟩
 | _=>exact ⟨fun v h=>by simpa only [RV] using h,fun ys h=>by simp only [RT] at h⟩
theorem RV.mono (L:Le W W' n n') {x:V} {v:Value} (h:RV P W n x v):RV P W' n' x v:=(rv_mono2 L x).1 v h
theorem RT.mono (L:Le W W' n n') {x:V} {ys:List Value} (h:RT P W n x ys):RT P W' n' x ys:=(rv_mono2 L x).2 ys h
theorem RVs.mono (L:Le W W' n n') {xs:List V} {vs:List Value} (h:RVs P W n xs vs):RVs P W' n' xs vs:=by
 induction h with
 | nil=>exact .nil
 | cons a _ ih=>exact .cons (a.mono L) ih
theorem RD.mono (L:Le W W' n n') {xs:List (V×V)} {vs:List Row3} (h:RD P W n xs vs):RD P W' n' xs vs:=by
 induction h with
 | nil=>exact .nil
 | cons c a b _ ih=>exact .cons c (a.mono L) (b.mono L) ih
theorem RN.mono (L:Le W W' n n') {xs:List (Nat×V)} {vs:List DictEntry} (h:RN P W n xs vs):RN P W' n' xs vs:=by
 induction h with
 | nil=>exact .nil
 | cons a _ ih=>exact .cons (a.mono L) ih
theorem DOk.mono (L:Le W W' n n') {es:List (V×V)} {xs:List Row3} (h:DOk P W n es xs):DOk P W' n' es xs:=⟨h.rd.mono L,h.nod,h.uni,h.len,h.good⟩
theorem RO1.mono (L:Le W W' n n') {o:O} {a:Addr} (h:RO1 P W n o a) (k:∀ x,(a,x)∈W.ns→(a,x)∈W'.ns):RO1 P W' n' o a:=by
 induction o using O.casesOn with
 | list m t=>
  refine pL fun G0 hG0=>?_
  obtain ⟨its,ep,h1,h2,h3,h4⟩:=h
  refine hG0 ?_
  exact ⟨its,ep,k _ h1,h2,h3,fun i v l e=>let ⟨x,a,b⟩:=h4 i v l e; ⟨x,a,b.mono L⟩⟩
 | dict es=>obtain ⟨xs,ep,h1,h2⟩:=h; exact ⟨xs,ep,k _ h1,h2.mono L⟩
 | inst c d=>exact ⟨Nat.lt_of_lt_of_le h.1 L.le,by rw [L.si d h.1]; exact k _ h.2⟩
 | ns es=>obtain ⟨ds,ep,h1,h2,h3⟩:=h; exact ⟨ds,ep,k _ h1,h2.mono L,h3⟩
 | rng lo hi=>obtain ⟨t,u,v,h⟩:=h; exact ⟨t,u,v,k _ h⟩
 | kt st=>exact h.elim
theorem RO.mono (L:Le W W' n n') {o:O} {a:Addr} (h:RO P W n o a) (k:∀ x,(a,x)∈W.ns→(a,x)∈W'.ns):RO P W' n' o a:=RO1.mono L h k
theorem nod_eq {l:List (Addr×Obj)} (h:(l.map (·.1)).Nodup) {a:Addr} {o o':Obj} (x:(a,o)∈l) (y:(a,o')∈l):o=o':=by
 induction l with
 | nil=>cases x
 | cons p l ih=>
  rw [List.map_cons,List.nodup_cons] at h
  rcases List.mem_cons.mp x with e1 | x1
  ·rcases List.mem_cons.mp y with e2 | y1
   ·exact (Prod.mk.inj (e1.trans e2.symm)).2
   ·exact absurd (List.mem_map.mpr ⟨(a,o'),y1,by rw [← e1]⟩) h.1
  ·rcases List.mem_cons.mp y with e2 | y1
   ·exact absurd (List.mem_map.mpr ⟨(a,o),x1,by rw [← e2]⟩) h.1
   ·exact ih h.2 x1 y1
end Mine
namespace Mine
theorem beqD (a b:Nat):Nat.beq a b=decide (a=b):=BT.beq_eq a b
namespace Tr
variable {α:Type}
theorem get_nil (i:Nat):(Tr.nil:Tr α).get i=none:=rfl
theorem two_ifs {β:Type} (i:Nat) (a b c:β):(Bool.rec (motive:=fun _=>β) (Bool.rec (motive:=fun _=>β) a b (Nat.beq (Nat.mod i 2) 1)) c (Nat.beq i 0))=if i=0 then c else if i % 2=1 then b else a:=by
 rw [beqD,beqD]
 by_cases h:i=0
 ·rw [decide_eq_true h,if_pos h]
 ·rw [decide_eq_false h,if_neg h]
  by_cases q:i % 2=1
  ·rw [if_pos q,decide_eq_true (show Nat.mod i 2=1 from q)]
  ·rw [if_neg q,decide_eq_false (show ¬ Nat.mod i 2=1 from q)]
theorem get_node (v:Option α) (l r:Tr α) (i:Nat):(Tr.node v l r).get i=if i=0 then v else if i % 2=1 then l.get (i / 2) else r.get (i / 2 - 1):=two_ifs i _ _ _
theorem putN_succ (o:α) (n i:Nat):putN o (n + 1) i=if i=0 then .node (some o) .nil .nil else if i % 2=1 then .node none (putN o n (i / 2)) .nil else .node none .nil (putN o n (i / 2 - 1)):=two_ifs i _ _ _
theorem put_node (v:Option α) (l r:Tr α) (i:Nat) (o:α):(Tr.node v l r).put i o=if i=0 then .node (some o) l r else if i % 2=1 then .node v (l.put (i / 2) o) r else .node v l (r.put (i / 2 - 1) o):=two_ifs i _ _ _
theorem half1 {i j:Nat} (p:i % 2=1) (q:j % 2=1):i / 2=j / 2↔i=j:=⟨fun h=>by rw [← Nat.div_add_mod i 2,← Nat.div_add_mod j 2,h,p,q],fun h=>by rw [h]⟩
theorem half_ev {i:Nat} (h0:i≠0) (p:i % 2≠1):i=2 * (i / 2 - 1 + 1):=by
 have d:=Nat.div_add_mod i 2
 rw [(Nat.mod_two_eq_zero_or_one i).resolve_right p,Nat.add_zero] at d
 cases w:i / 2 with
 | zero=>rw [w] at d; exact absurd d.symm h0
 | succ a=>rw [w] at d; exact d.symm
theorem half2 {i j:Nat} (h0:i≠0) (h1:j≠0) (p:i % 2≠1) (q:j % 2≠1):i / 2 - 1=j / 2 - 1↔i=j:=
 ⟨fun h=>by rw [half_ev h0 p,half_ev h1 q,h],fun h=>by rw [h]⟩
theorem half_lt {i m:Nat} (h:i + 1 < m * 2):(i % 2=1→i / 2 + 1 < m)∧(i≠0→i % 2≠1→i / 2 - 1 + 1 < m):=by
 rw [Nat.mul_comm] at h
 refine ⟨fun p=>?_,fun h0 p=>?_⟩
 ·have d:=Nat.div_add_mod i 2
  rw [← d,p] at h
  exact Nat.lt_of_mul_lt_mul_left (a:=2) h
 ·have d:=half_ev h0 p
  exact Nat.lt_of_mul_lt_mul_left (a:=2) (d▸Nat.lt_of_succ_lt h)
theorem if_iff {β:Type} {a b:Prop} [Decidable a] [Decidable b] (h:a↔b) (x y:β):(if a then x else y)=if b then x else y:=by
 by_cases q:a
 ·rw [if_pos q,if_pos (h.mp q)]
 ·rw [if_neg q,if_neg (fun w=>q (h.mpr w))]
theorem node_put (i j:Nat) (v x:Option α) (l r pl pr:Tr α) (hl:i % 2=1→∀ k,pl.get k=if i / 2=k then x else l.get k) (hr:i≠0→i % 2≠1→∀ k,pr.get k=if i / 2 - 1=k then x else r.get k) :
  (if i=0 then Tr.node x l r else if i % 2=1 then .node v pl r else .node v l pr).get j=if i=j then x else (Tr.node v l r).get j:=by
 by_cases h0:i=0
 ·rw [if_pos h0,get_node,get_node,h0]
  by_cases hj:j=0
  ·rw [if_pos hj,if_pos hj.symm]
  ·rw [if_neg hj,if_neg hj,if_neg (Ne.symm hj)]
 ·rw [if_neg h0]
  by_cases p:i % 2=1
  ·rw [if_pos p,get_node,get_node]
   by_cases hj:j=0
   ·rw [if_pos hj,if_pos hj,if_neg (fun e=>h0 (e.trans hj))]
   ·rw [if_neg hj,if_neg hj]
    by_cases pj:j % 2=1
    ·rw [if_pos pj,if_pos pj,hl p,if_iff (half1 p pj)]
    ·rw [if_neg pj,if_neg pj,if_neg (fun e:i=j=>pj (e▸p))]
  ·rw [if_neg p,get_node,get_node]
   by_cases hj:j=0
   ·rw [if_pos hj,if_pos hj,if_neg (fun e=>h0 (e.trans hj))]
   ·rw [if_neg hj,if_neg hj]
    by_cases pj:j % 2=1
    ·rw [if_pos pj,if_pos pj,if_neg (fun e:i=j=>p (e▸pj))]
    ·rw [if_neg pj,if_neg pj,hr h0 p,if_iff (half2 h0 hj p pj)]
theorem get_emp (j:Nat):(Tr.node (none:Option α) .nil .nil).get j=none:=by rw [get_node,get_nil,get_nil,ite_self,ite_self]
theorem get_putN (o:α) (n:Nat):∀ (i j:Nat),i + 1 < 2 ^ n→(putN o n i).get j=if i=j then some o else none:=by
 induction n with
 | zero=>exact fun i j h=>absurd h (Nat.not_lt.mpr (Nat.succ_le_succ (Nat.zero_le _)))
 | succ n ih=>
  intro i j h
  have h2:=half_lt (show i + 1 < 2 ^ n * 2 from h)
  rw [putN_succ,node_put i j none (some o) .nil .nil _ _ (fun p k=>ih _ k (h2.1 p)) (fun a p k=>ih _ k (h2.2 a p)),get_emp]
theorem get_put (t:Tr α) (o:α):∀ (i j:Nat),i + 1 < 2 ^ 24→(t.put i o).get j=if i=j then some o else t.get j:=by
 induction t with
 | nil=>exact fun i j h=>get_putN o 24 i j h
 | node v l r il ir=>
  intro i j h
  have h2:=half_lt (m:=2 ^ 24) (Nat.lt_of_lt_of_le h (by decide))
  rw [put_node,node_put i j v (some o) l r _ _ (fun p k=>il _ k (Nat.lt_of_lt_of_le (h2.1 p) (by decide))) (fun a p k=>ir _ k (Nat.lt_of_lt_of_le (h2.2 a p) (by decide)))]
end Tr
end Mine
namespace Mine
structure Ext (W W':Wd) (h h':Hp):Prop where
 L:Le W W' h.n h'.n
 rs:h'.rs=h.rs
 wr:∀ a∈h.wr,a∈h'.wr
 dom:∀ a∈W.ns.map (·.1),a∈W'.ns.map (·.1)
 new:∀ i,h.n≤i→i < h'.n→W'.si i∉W.ns.map (·.1)
 keep:∀ b o,(b,o)∈W.ns→(∀ i∈h'.wr,W'.si i≠b)→(b,o)∈W'.ns
variable {P:Pm} {W W' W'':Wd} {h h' h'':Hp}
theorem Ext.refl (W:Wd) (h:Hp):Ext W W h h:=⟨Le.refl _ _,rfl,fun _ x=>x,fun _ x=>x,fun i a b=>absurd (Nat.lt_of_lt_of_le b a) (Nat.lt_irrefl _),fun _ _ x _=>x⟩
theorem Ext.trans (a:Ext W W' h h') (b:Ext W' W'' h' h'') (r:Rel P W' h'):Ext W W'' h h'':=by
 refine ⟨a.L.trans b.L,b.rs.trans a.rs,fun x y=>b.wr _ (a.wr _ y),fun x y=>b.dom _ (a.dom _ y),fun i p q z=>?_,fun c o m n=>b.keep _ _ (a.keep _ _ m fun i j e=>n i (b.wr _ j) ((b.L.si i (r.wr i j)).trans e)) n⟩
 rcases Nat.lt_or_ge i h'.n with l | g
 ·rw [b.L.si i l] at z; exact a.new i p l z
 ·exact b.new i g q (a.dom _ z)
theorem mem_fst {l:List (Addr×Obj)} {a:Addr} {o:Obj} (m:(a,o)∈l):a∈l.map (·.1):=List.mem_map.mpr ⟨_,m,rfl⟩
theorem fst_mem {l:List (Addr×Obj)} {a:Addr} (m:a∈l.map (·.1)):∃ o,(a,o)∈l:=let ⟨p,q,e⟩:=List.mem_map.mp m; ⟨p.2,by rw [← e]; exact q⟩
theorem Rel.isNew (r:Rel P W h) {a:Addr} (f:∀ p∈W.ns,p.1 < a):a∉W.ns.map (·.1)∧sysModules < a:=by
 refine ⟨fun m=>?_,?_⟩
 ·obtain ⟨p,hp,e⟩:=List.mem_map.mp m
  exact absurd (f p hp) (by rw [e]; exact Nat.lt_irrefl _)
 ·induction q:W.ns using List.casesOn with
  | nil=>exact absurd q r.non
  | cons p l=>
   have hp:p∈W.ns:=by rw [q]; exact .head _
   exact Nat.lt_trans (r.low p hp) (f p hp)
theorem low_cons (r:Rel P W h) {a:Addr} {o:Obj} (z:sysModules < a):∀ p∈(a,o)::W.ns,sysModules < p.1:=by
 intro p hp
 rcases List.mem_cons.mp hp with rfl | hp
 ·exact z
 ·exact r.low p hp
theorem Rel.raw (r:Rel P W h) {a:Addr} {o:Obj} (f':∀ p∈W.ns,p.1 < a):Rel P ⟨W.si,(a,o)::W.ns⟩ h∧Ext W ⟨W.si,(a,o)::W.ns⟩ h h:=by
 obtain ⟨f,lo⟩:=r.isNew f'
 have L:Le W ⟨W.si,(a,o)::W.ns⟩ h.n h.n:=⟨Nat.le_refl _,fun _ _=>rfl,fun _ _ _ m=>.tail _ m⟩
 exact ⟨⟨List.nodup_cons.mpr ⟨f,r.nod⟩,r.inj,fun b x e=>⟨(r.obj b x e).1,(r.obj b x e).2.mono L fun _ m=>.tail _ m⟩,fun b l=>.tail _ (r.dom b l),r.res,r.wr,low_cons r lo,fun z=>(nomatch z),r.lid⟩,
  L,rfl,fun _ x=>x,fun _ x=>.tail _ x,fun i p q=>absurd (Nat.lt_of_lt_of_le q p) (Nat.lt_irrefl _),fun _ _ m _=>.tail _ m⟩
noncomputable def Wd.add (W:Wd) (n:Nat) (a:Addr) (o:Obj):Wd:=⟨fun i=>if i=n then a else W.si i,(a,o)::W.ns⟩
noncomputable def Hp.add (h:Hp) (o:O):Hp:=⟨h.t.put h.n o,Nat.succ h.n,h.rs,h.wr⟩
theorem le_add (W:Wd) (n:Nat) (a:Addr) (o:Obj):Le W (W.add n a o) n (n + 1):=⟨Nat.le_succ _,fun i l=>by show (if i=n then a else W.si i)=_; rw [if_neg (Nat.ne_of_lt l)],fun _ _ _ m=>.tail _ m⟩
theorem Rel.add (r:Rel P W h) {a:Addr} {o:Obj} {ob:O} (f':∀ p∈W.ns,p.1 < a) (hn:h.n < 16000000) (ho:RO P (W.add h.n a o) (h.n + 1) ob a) :
  Rel P (W.add h.n a o) (h.add ob)∧Ext W (W.add h.n a o) h (h.add ob):=by
 obtain ⟨f,lo⟩:=r.isNew f'
 have L:=le_add W h.n a o
 have e1:∀ i,i < h.n→(W.add h.n a o).si i=W.si i:=L.si
 have e2:(W.add h.n a o).si h.n=a:=if_pos rfl
 refine ⟨⟨List.nodup_cons.mpr ⟨f,r.nod⟩,fun i j li lj e=>?_,fun b x e=>?_,fun b l=>?_,r.res,fun i m=>Nat.lt_succ_of_lt (r.wr i m),low_cons r lo,fun z=>(nomatch z),hn⟩,
  L,rfl,fun _ x=>x,fun _ x=>.tail _ x,fun i p q=>?_,fun _ _ m _=>.tail _ m⟩
 ·rcases Nat.lt_succ_iff_lt_or_eq.mp li with li | rfl <;> rcases Nat.lt_succ_iff_lt_or_eq.mp lj with lj | rfl
  ·rw [e1 i li,e1 j lj] at e; exact r.inj i j li lj e
  ·rw [e1 i li,e2] at e; exact absurd (e▸r.dom i li) f
  ·rw [e1 j lj,e2] at e; exact absurd (e.symm▸r.dom j lj) f
  ·rfl
 ·have e':(h.t.put h.n ob).get b=some x:=e
  rw [Tr.get_put h.t ob h.n b (by lia)] at e'
  by_cases hb:h.n=b
  ·rw [if_pos hb] at e'
   (obtain rfl:=Option.some.inj e')
   subst hb
   exact ⟨Nat.lt_succ_self _,by rw [e2]; exact ho⟩
  ·rw [if_neg hb] at e'
   have z:=r.obj b x e'
   exact ⟨Nat.lt_succ_of_lt z.1,by rw [e1 b z.1]; exact z.2.mono L fun _ m=>.tail _ m⟩
 ·rcases Nat.lt_succ_iff_lt_or_eq.mp l with l | rfl
  ·rw [e1 b l]; exact .tail _ (r.dom b l)
  ·rw [e2]; exact .head _
 ·obtain rfl:i=h.n:=Nat.le_antisymm (Nat.lt_succ_iff.mp q) p
  rw [e2]; exact f
theorem upd_ex {l:List (Addr×Obj)} (hn:(l.map (·.1)).Nodup) {a:Addr} {o:Obj} (m:(a,o)∈l):∃ pre post,l=pre ++ (a,o)::post∧(∀ p∈pre,p.1≠a)∧∀ p∈post,p.1≠a:=by
 induction l with
 | nil=>cases m
 | cons p l ih=>
  rw [List.map_cons,List.nodup_cons] at hn
  rcases List.mem_cons.mp m with e | m'
  ·subst e
   exact ⟨[],l,rfl,fun _ h=>(nomatch h),fun p hp e=>hn.1 (List.mem_map.mpr ⟨p,hp,e⟩)⟩
  ·obtain ⟨pre,post,e1,e2,e3⟩:=ih hn.2 m'
   refine ⟨p::pre,post,by rw [e1]; rfl,fun q hq=>?_,e3⟩
   rcases List.mem_cons.mp hq with rfl | hq
   ·intro e; exact hn.1 (List.mem_map.mpr ⟨(a,o),m',e.symm⟩)
   ·exact e2 q hq
noncomputable def setRow (a:Addr) (o:Obj) (l:List (Addr×Obj)):List (Addr×Obj):=l.map fun p=>if p.1=a then (a,o) else p
theorem setRow_id {a:Addr} {o:Obj} {l:List (Addr×Obj)} (h:∀ p∈l,p.1≠a):setRow a o l=l:=by
 induction l with
 | nil=>rfl
 | cons p l ih=>show (if p.1=a then (a,o) else p)::setRow a o l=_; rw [if_neg (h p (.head _)),ih fun q hq=>h q (.tail _ hq)]
theorem setRow_mid {a:Addr} {o o':Obj} {pre post:List (Addr×Obj)} (h1:∀ p∈pre,p.1≠a) (h2:∀ p∈post,p.1≠a):setRow a o' (pre ++ (a,o)::post)=pre ++ (a,o')::post:=by
 show (pre ++ (a,o)::post).map _=_
 rw [List.map_append,List.map_cons,if_pos rfl]
 exact congr (congrArg _ (setRow_id h1)) (congrArg _ (setRow_id h2))
theorem setRow_fst (a:Addr) (o:Obj) (l:List (Addr×Obj)):(setRow a o l).map (·.1)=l.map (·.1):=by
 show (l.map _).map _=_
 rw [List.map_map]
 refine List.map_congr_left fun p _=>?_
 show (if p.1=a then (a,o) else p).1=p.1
 split
 ·rename_i e; exact e.symm
 ·rfl
theorem setRow_ne {a b:Addr} {o x:Obj} {l:List (Addr×Obj)} (hb:b≠a) (m:(b,x)∈l):(b,x)∈setRow a o l:=List.mem_map.mpr ⟨_,m,if_neg hb⟩
theorem setRow_eq {a:Addr} {o x:Obj} {l:List (Addr×Obj)} (m:(a,x)∈l):(a,o)∈setRow a o l:=List.mem_map.mpr ⟨_,m,if_pos rfl⟩
theorem Upd.ofRow {l:List (Addr×Obj)} (hn:(l.map (·.1)).Nodup) {a:Addr} {o o':Obj} (m:(a,o)∈l):Upd a o o' l (setRow a o' l):=by
 obtain ⟨pre,post,rfl,h1,h2⟩:=upd_ex hn m
 rw [setRow_mid h1 h2]
 clear hn m
 induction pre with
 | nil=>exact .head h2
 | cons p pre ih=>exact .tail (h1 p (.head _)) (ih fun q hq=>h1 q (.tail _ hq))
theorem UpdF.ofRow {l:List (Addr×Obj)} (hn:(l.map (·.1)).Nodup) {a:Addr} {o:Obj} (m:(a,o)∈l):UpdF a o l (fun o'=>setRow a o' l):=by
 obtain ⟨pre,post,rfl,h1,h2⟩:=upd_ex hn m
 clear hn m
 have e:(fun o'=>setRow a o' (pre ++ (a,o)::post))=fun o'=>pre ++ (a,o')::post:=funext fun o'=>setRow_mid h1 h2
 rw [e]
 clear e
 induction pre with
 | nil=>exact .head h2
 | cons p pre ih=>exact .tail (h1 p (.head _)) (ih fun q hq=>h1 q (.tail _ hq))
theorem mem_fst' {l:List (Addr×Obj)} {p:Addr×Obj} {a:Addr} {o:Obj} (m:p∈setRow a o l):p.1∈l.map (·.1):=by rw [← setRow_fst a o l]; exact List.mem_map.mpr ⟨p,m,rfl⟩
theorem fst_mem' {l:List (Addr×Obj)} {a:Addr} (m:a∈l.map (·.1)):∃ p,p∈l∧p.1=a:=List.mem_map.mp m
theorem Rel.put (r:Rel P W h) {i:Nat} {o o':Obj} {ob:O} (li:i < h.n) (hn:h.n≤16000000) (m:(W.si i,o)∈W.ns) (ht:¬ Imm o) (ho:RO P ⟨W.si,setRow (W.si i) o' W.ns⟩ h.n ob (W.si i)) :
  Rel P ⟨W.si,setRow (W.si i) o' W.ns⟩ (h.set i ob)∧Ext W ⟨W.si,setRow (W.si i) o' W.ns⟩ h (h.set i ob):=by
 have L:Le W ⟨W.si,setRow (W.si i) o' W.ns⟩ h.n h.n:=⟨Nat.le_refl _,fun _ _=>rfl,fun b x i q=>setRow_ne (fun e=>ht (by rw [nod_eq r.nod m (e▸q)]; exact i)) q⟩
 refine ⟨⟨by show ((setRow _ _ _).map _).Nodup; rw [setRow_fst]; exact r.nod,r.inj,fun b x e=>?_,fun b l=>by show _∈(setRow _ _ _).map _; rw [setRow_fst]; exact r.dom b l,r.res,fun a q=>?_,fun p hp=>?_,fun z=>?_,hn⟩,
  L,rfl,fun _ x=>.tail _ x,fun a q=>by show _∈(setRow _ _ _).map _; rw [setRow_fst]; exact q,fun j p q=>absurd (Nat.lt_of_lt_of_le q p) (Nat.lt_irrefl _),fun b x q n=>setRow_ne (fun e=>n i (.head _) e.symm) q⟩
 ·have e':(h.t.put i ob).get b=some x:=e
  rw [Tr.get_put h.t ob i b (by lia)] at e'
  by_cases hb:i=b
  ·rw [if_pos hb] at e'; (obtain rfl:=Option.some.inj e'); subst hb; exact ⟨li,ho⟩
  ·rw [if_neg hb] at e'
   have z:=r.obj b x e'
   exact ⟨z.1,z.2.mono L fun y q=>setRow_ne (fun e=>hb (r.inj _ _ li z.1 e.symm)) q⟩
 ·rcases List.mem_cons.mp q with rfl | q
  ·exact li
  ·exact r.wr a q
 ·obtain ⟨x,hx,e⟩:=fst_mem' (mem_fst' hp)
  exact e▸r.low x hx
 ·have q:(setRow (W.si i) o' W.ns).map (·.1)=[]:=by rw [show setRow (W.si i) o' W.ns=[] from z]; rfl
  rw [setRow_fst] at q
  exact r.non (List.map_eq_nil_iff.mp q)
end Mine
namespace Mine
noncomputable def pd2 (P:Pm):V→Option PyData×Option (List PyData)
 | .none=>(some .none,none)
 | .bool b=>(some (.bool b),none)
 | .int i=>(some (.int i),none)
 | .str k=>(some (.str (P.nm k)),none)
 | .si e=>(some (.int (e.val P)),none)
 | .kd j=>(some (.int (P.ka j)),none)
 | .tn=>(some (.tuple []),some [])
 | .tc x r=>match (pd2 P x).1,(pd2 P r).2 with
  | some a,some l=>(some (.tuple (a::l)),some (a::l))
  | _,_=>(none,none)
 | .dyn=>(none,none)
 | .ref _=>(none,none)
 | .glb _=>(none,none)
 | .bad=>(none,none)
 | .ub=>(none,none)
noncomputable def pd (P:Pm) (v:V):Option PyData:=(pd2 P v).1
noncomputable def pds (P:Pm) (v:V):Option (List PyData):=(pd2 P v).2
variable {P:Pm}
theorem pd_tc {x r:V}:pd P (.tc x r)=(pd P x).bind fun a=>(pds P r).map fun l=>.tuple (a::l):=by
 show (pd2 P (.tc x r)).1=_
 simp only [pd2,pd,pds]
 cases (pd2 P x).1 <;> cases (pd2 P r).2 <;> rfl
theorem pds_tc {x r:V}:pds P (.tc x r)=(pd P x).bind fun a=>(pds P r).map fun l=>a::l:=by
 show (pd2 P (.tc x r)).2=_
 simp only [pd2,pd,pds]
 cases (pd2 P x).1 <;> cases (pd2 P r).2 <;> rfl
theorem pd_of_pds {r:V} {l:List PyData} (h:pds P r=some l):pd P r=some (.tuple l):=by
 induction r using V.casesOn with
 | tn=>(obtain rfl:=Option.some.inj h); rfl
 | tc x r=>
  rw [pds_tc] at h
  obtain ⟨a,ha,h⟩:=Option.bind_eq_some_iff.mp h
  obtain ⟨m,hm,rfl⟩:=Option.map_eq_some_iff.mp h
  rw [pd_tc,ha,hm]; rfl
 | _=>exact oX h
theorem ofN (a:Nat):Int.ofNat a=(a:Int):=rfl
theorem blt_eq (a b:Nat):Nat.blt a b=decide (a < b):=by unfold Nat.blt; rw [Bool.eq_iff_iff,Nat.ble_eq,decide_eq_true_iff]; lia
theorem iB_eq (i j:Int):iB i j=decide (i=j):=by
 induction i using Int.casesOn with
 | ofNat a=>cases j with
  | ofNat b=>show Nat.beq a b=_; rw [beqD,ofN,ofN,Bool.eq_iff_iff,decide_eq_true_iff,decide_eq_true_iff]; lia
  | negSucc b=>rfl
 | negSucc a=>cases j with
  | ofNat b=>rfl
  | negSucc b=>show Nat.beq a b=_; rw [beqD]; simp
theorem ilt_eq (i j:Int):ilt i j=decide (i < j):=by
 induction i using Int.casesOn with
 | ofNat a=>cases j with
  | ofNat b=>show Nat.blt a b=_; rw [blt_eq,ofN,ofN,Bool.eq_iff_iff,decide_eq_true_iff,decide_eq_true_iff]; lia
  | negSucc b=>symm; show decide _=false; rw [decide_eq_false_iff_not,ofN]; lia
 | negSucc a=>cases j with
  | ofNat b=>symm; show decide _=true; rw [decide_eq_true_iff,ofN]; lia
  | negSucc b=>show Nat.blt b a=_; rw [blt_eq,Bool.eq_iff_iff,decide_eq_true_iff,decide_eq_true_iff]; lia
theorem ble_eq (a b:Nat):Nat.ble a b=decide (a≤b):=by rw [Bool.eq_iff_iff,Nat.ble_eq,decide_eq_true_iff]
theorem b3_eq {a b c:Bool}:b3 a b c=true↔a=true∧b=true∧c=true:=by cases a <;> cases b <;> cases c <;> decide
theorem ilEq_eq:∀ a b:List Int,ilEq a b=true→a=b
 | [],[],_=>rfl
 | [],_::_,h=>nomatch h
 | _::_,[],h=>nomatch h
 | x::a,y::b,h=>by
  have h':(match iB x y with | true=>ilEq a b | false=>false)=true:=h
  rw [iB_eq] at h'
  by_cases e:x=y
  ·rw [decide_eq_true e] at h'; rw [e,ilEq_eq a b h']
  ·rw [decide_eq_false e] at h'; exact bX h'
theorem ilNe_ne:∀ a b:List Int,ilNe a b=true→a.length=b.length∧∀ i,i < a.length→a.getD i 0≠b.getD i 0
 | [],[],_=>⟨rfl,fun _ h=>absurd h (Nat.not_lt_zero _)⟩
 | [],_::_,h=>nomatch h
 | _::_,[],h=>nomatch h
 | x::a,y::b,h=>by
  have h':(match iB x y with | true=>false | false=>ilNe a b)=true:=h
  rw [iB_eq] at h'
  by_cases e:x=y
  ·rw [decide_eq_true e] at h'; exact bX h'
  ·rw [decide_eq_false e] at h'
   have z:=ilNe_ne a b h'
   refine ⟨by simp [z.1],fun i hi=>?_⟩
   induction i using Nat.casesOn with
   | zero=>simpa using e
   | succ i=>simpa using z.2 i (by simpa using hi)
theorem fmod_lt (a:Int) {m:Nat} (h:0 < m):(Int.fmod a m).toNat < m:=by
 rw [Int.fmod_eq_emod_of_nonneg a (by lia)]
 have h1:=Int.emod_nonneg a (b:=(m:Int)) (by lia)
 have h2:=Int.emod_lt_of_pos a (b:=(m:Int)) (by lia)
 lia
theorem siEq_eq {a b:SI} {r:Bool} (h:siEq a b=some r):r=(a.val P == b.val P):=by
 cases a with
 | n k c=>
  cases b with
  | n k' c'=>
   have h':(match b3 (Nat.beq k k') (Nat.beq c c') true with | true=>some true | false=>(none:Option Bool))=some r:=h
   split at h'
   ·rename_i e
    (obtain rfl:=Option.some.inj h')
    obtain ⟨e1,e2,_⟩:=b3_eq.mp e
    rw [beqD,decide_eq_true_iff] at e1 e2
    subst e1 e2; symm; exact beq_self_eq_true _
   ·exact oX h'
  | _=>exact oX h
 | r k c m x y=>
  induction b using SI.casesOn with
  | r k' c' m' x' y'=>
   have h':(match b3 (b3 (Nat.beq k k') (Nat.beq c c') (Nat.beq m m')) (iB x x') (iB y y') with | true=>some true | false=>(none:Option Bool))=some r:=h
   split at h'
   ·rename_i e
    (obtain rfl:=Option.some.inj h')
    obtain ⟨e1,e2,e3⟩:=b3_eq.mp e
    obtain ⟨e4,e5,e6⟩:=b3_eq.mp e1
    rw [beqD,decide_eq_true_iff] at e4 e5 e6
    rw [iB_eq,decide_eq_true_iff] at e2 e3
    subst e4 e5 e6 e2 e3; symm; exact beq_self_eq_true _
   ·exact oX h'
  | _=>exact oX h
 | p k c m xs=>
  induction b using SI.casesOn with
  | p k' c' m' ys=>
   have h':siP (b3 (Nat.beq k k') (Nat.beq c c') (Nat.beq m m')) m xs ys=some r:=h
   unfold siP at h'
   split at h'
   ·rename_i e
    obtain ⟨e4,e5,e6⟩:=b3_eq.mp e
    rw [beqD,decide_eq_true_iff] at e4 e5 e6
    subst e4 e5 e6
    split at h'
    ·rename_i q
     (obtain rfl:=Option.some.inj h')
     rw [ilEq_eq _ _ q]; symm; exact beq_self_eq_true _
    ·split at h'
     ·rename_i q
      (obtain rfl:=Option.some.inj h')
      obtain ⟨q1,q2,q3⟩:=b3_eq.mp q
      rw [blt_eq,decide_eq_true_iff] at q1
      rw [ble_eq,decide_eq_true_iff] at q2
      symm
      rw [beq_eq_false_iff_ne]
      exact (ilNe_ne _ _ q3).2 _ (Nat.lt_of_lt_of_le (fmod_lt _ q1) q2)
     ·exact oX h'
   ·exact oX h'
  | _=>exact oX h
 | raw k=>exact oX h
theorem oAnd_some {a b:Option Bool} {r:Bool} (h:oAnd a b=some r):(a=some false∧r=false)∨(a=some true∧b=some r):=by
 induction a using Option.casesOn with
 | none=>exact oX h
 | some a=>cases a with
  | false=>(obtain rfl:=Option.some.inj h); exact .inl ⟨rfl,rfl⟩
  | true=>exact .inr ⟨rfl,h⟩
theorem strB {P:Pm} (ok:POk P) (x y:Nat):Nat.beq x y=(P.nm x == P.nm y):=by
 rw [beqD]
 by_cases e:x=y
 ·rw [decide_eq_true e,e]; symm; exact beq_self_eq_true _
 ·rw [decide_eq_false e]; symm; rw [beq_eq_false_iff_ne]; exact fun q=>e (ok.nmi _ _ q)
theorem kdB {P:Pm} (ok:POk P) (x y:Nat):Nat.beq x y=(P.ka x == P.ka y):=by
 rw [beqD]
 by_cases e:x=y
 ·rw [decide_eq_true e,e]; symm; exact beq_self_eq_true _
 ·rw [decide_eq_false e]; symm; rw [beq_eq_false_iff_ne]; exact fun q=>e (ok.kai _ _ q)
theorem kdI {P:Pm} (ok:POk P) {x:Int} (j:Nat) (h:ilt x 16=true):(x == P.ka j)=false∧(P.ka j == x)=false:=by
 rw [ilt_eq,decide_eq_true_iff] at h
 have:=ok.ka0 j
 exact ⟨beq_eq_false_iff_ne.mpr (by lia),beq_eq_false_iff_ne.mpr (by lia)⟩
theorem beq_int (x y:Int):decide (x=y)=(x == y):=by rw [Bool.eq_iff_iff,decide_eq_true_iff,beq_iff_eq]
noncomputable def VE (P:Pm) (a b:V) (r:Bool):Prop:=(∀ x y,pd P a=some x→pd P b=some y→r=PyData.eqv x y)∧(∀ x y,pds P a=some x→pds P b=some y→r=PyData.eqvAll x y)
theorem oNo {α:Type} {x:α} {G:Prop} (h:none=some x):G:=oX h
section
variable {a b x s:V} {r c:Bool} {x0 y0 u:PyData}
theorem ve_p (ha:pd P a=some x0) (hs:pds P a=none) (k:∀ y,pd P b=some y→r=PyData.eqv x0 y):VE P a b r:=
 ⟨fun x y hx hy=>by rw [← Option.some.inj (ha.symm.trans hx)]; exact k y hy,fun x y hx _=>oNo (hs.symm.trans hx)⟩
theorem ve_e (h:some c=some r) (ha:pd P a=some x0) (hs:pds P a=none) (hb:pd P b=some y0) (e:c=PyData.eqv x0 y0):VE P a b r:=
 ve_p ha hs fun y hy=>by rw [← Option.some.inj h,← Option.some.inj (hb.symm.trans hy),e]
theorem pd_tup (h:pd P (.tc x s)=some u):∃ l,pds P (.tc x s)=some l∧u=.tuple l:=by
 rw [pd_tc] at h; rw [pds_tc]
 obtain ⟨a1,ha,h⟩:=Option.bind_eq_some_iff.mp h
 obtain ⟨l1,hl,rfl⟩:=Option.map_eq_some_iff.mp h
 exact ⟨_,by rw [ha,hl]; rfl,rfl⟩
theorem pds_cons {l:List PyData} (h:pds P (.tc x s)=some l):∃ y m,pd P x=some y∧pds P s=some m∧l=y::m:=by
 rw [pds_tc] at h
 obtain ⟨a1,ha,h⟩:=Option.bind_eq_some_iff.mp h
 obtain ⟨l1,hl,rfl⟩:=Option.map_eq_some_iff.mp h
 exact ⟨_,_,ha,hl,rfl⟩
theorem ve_t (h:some false=some r) (ha:pd P a=some x0) (hs:pds P a=none) (e:∀ l,PyData.eqv x0 (.tuple l)=false):VE P a (.tc x s) r:=
 ve_p ha hs fun y hy=>by
  obtain ⟨l,_,e2⟩:=pd_tup hy
  rw [← Option.some.inj h,e2,e]
theorem ve_s (h:some false=some r) (hb:pd P b=some y0) (hs:pds P b=none) (e:∀ l,PyData.eqv (.tuple l) y0=false):VE P (.tc x s) b r:=
 ⟨fun u v hu hv=>by
  obtain ⟨l,_,e2⟩:=pd_tup hu
  rw [← Option.some.inj h,e2,← Option.some.inj (hb.symm.trans hv),e],fun _ v _ hv=>oNo (hs.symm.trans hv)⟩
end
theorem eqv_tup (l m:List PyData):PyData.eqv (.tuple l) (.tuple m)=PyData.eqvAll l m:=by simp only [PyData.eqv]
theorem veq_tc {x s y t:V} {r:Bool} (ix:∀ c,veq x y=some c→VE P x y c) (is:∀ c,veq s t=some c→VE P s t c) (h:oAnd (veq x y) (veq s t)=some r):VE P (.tc x s) (.tc y t) r:=by
 have key:∀ u v,pds P (.tc x s)=some u→pds P (.tc y t)=some v→r=PyData.eqvAll u v:=by
  intro u v hu hv
  obtain ⟨a1,l1,ha,hl,e1⟩:=pds_cons hu
  obtain ⟨a2,l2,hb,hm,e2⟩:=pds_cons hv
  rw [e1,e2]
  simp only [PyData.eqvAll]
  rcases oAnd_some h with ⟨q1,q2⟩ | ⟨q1,q2⟩
  ·rw [← (ix _ q1).1 _ _ ha hb,q2]; rfl
  ·rw [← (ix _ q1).1 _ _ ha hb,← (is _ q2).2 _ _ hl hm]; rfl
 refine ⟨fun u v hu hv=>?_,key⟩
 obtain ⟨l,q1,q2⟩:=pd_tup hu
 obtain ⟨m,q3,q4⟩:=pd_tup hv
 rw [q2,q4,eqv_tup]
 exact key _ _ q1 q3
theorem veq_eq (ok:POk P) (a:V):∀ (b:V) (r:Bool),veq a b=some r→VE P a b r:=by
 induction a with
 | tc x s ix is=>
  intro b r
  induction b using V.casesOn with
  | tc y t=>exact veq_tc (ix y) (is t)
  | tn=>exact fun h=>⟨fun u v hu hv=>by
    obtain ⟨l,q1,q2⟩:=pd_tup hu
    obtain ⟨a1,l1,_,_,e1⟩:=pds_cons q1
    rw [q2,e1,← Option.some.inj (show some (PyData.tuple [])=some v from hv),← Option.some.inj h,eqv_tup]; simp only [PyData.eqvAll],fun u v hu hv=>by
    obtain ⟨a1,l1,_,_,e1⟩:=pds_cons hu
    rw [e1,← Option.some.inj (show some ([]:List PyData)=some v from hv),← Option.some.inj h]; simp only [PyData.eqvAll]⟩
  | _=>first | exact oNo | exact fun h=>ve_s h rfl rfl fun _=>by simp only [PyData.eqv]
 | tn=>
  intro b r
  induction b using V.casesOn with
  | tn=>exact fun h=>⟨fun u v hu hv=>by rw [← Option.some.inj hu,← Option.some.inj hv,← Option.some.inj h]; rfl,fun u v hu hv=>by rw [← Option.some.inj hu,← Option.some.inj hv,← Option.some.inj h]; rfl⟩
  | tc y t=>exact fun h=>⟨fun u v hu hv=>by
    obtain ⟨l,q1,q2⟩:=pd_tup hv
    obtain ⟨a1,l1,_,_,e1⟩:=pds_cons q1
    rw [q2,e1,← Option.some.inj (show some (PyData.tuple [])=some u from hu),← Option.some.inj h,eqv_tup]; simp only [PyData.eqvAll],fun u v hu hv=>by
    obtain ⟨a1,l1,_,_,e1⟩:=pds_cons hv
    rw [e1,← Option.some.inj (show some ([]:List PyData)=some u from hu),← Option.some.inj h]; simp only [PyData.eqvAll]⟩
  | _=>first | exact oNo | exact fun h=>⟨fun u v hu hv=>by rw [← Option.some.inj hu,← Option.some.inj hv,← Option.some.inj h]; simp only [PyData.eqv],fun u v hu hv=>oNo hv⟩
 | none=>
  intro b r
  induction b using V.casesOn <;> first | exact oNo | exact fun h=>ve_p rfl rfl fun y hy=>oNo hy | exact fun h=>ve_t h rfl rfl fun _=>by simp only [PyData.eqv] | exact fun h=>ve_e h rfl rfl rfl (by simp only [PyData.eqv])
 | bool x=>
  intro b r
  induction b using V.casesOn with
  | int y=>
   cases x
   ·exact fun h=>ve_e (c:=iB 0 y) h rfl rfl rfl (by rw [iB_eq,beq_int]; simp [PyData.eqv])
   ·exact fun h=>ve_e (c:=iB 1 y) h rfl rfl rfl (by rw [iB_eq,beq_int]; simp [PyData.eqv])
  | _=>first | exact oNo | exact fun h=>ve_p rfl rfl fun y hy=>oNo hy | exact fun h=>ve_t h rfl rfl fun _=>by simp only [PyData.eqv] | exact fun h=>ve_e h rfl rfl rfl (by simp only [PyData.eqv])
 | int x=>
  intro b r
  induction b using V.casesOn with
  | int y=>exact fun h=>ve_e (c:=iB x y) h rfl rfl rfl (by rw [iB_eq,beq_int]; simp only [PyData.eqv])
  | bool y=>
   cases y
   ·exact fun h=>ve_e (c:=iB x 0) h rfl rfl rfl (by rw [iB_eq,beq_int]; simp [PyData.eqv])
   ·exact fun h=>ve_e (c:=iB x 1) h rfl rfl rfl (by rw [iB_eq,beq_int]; simp [PyData.eqv])
  | kd j=>
   intro h
   have h:(match ilt x 16 with | true=>some false | false=>none)=some r:=h
   induction e:ilt x 16 using Bool.casesOn with
   | true=>rw [e] at h; exact ve_e h rfl rfl rfl (by simp only [PyData.eqv]; exact (kdI ok j e).1.symm)
   | false=>rw [e] at h; exact oNo h
  | _=>first | exact oNo | exact fun h=>ve_p rfl rfl fun y hy=>oNo hy | exact fun h=>ve_t h rfl rfl fun _=>by simp only [PyData.eqv] | exact fun h=>ve_e h rfl rfl rfl (by simp only [PyData.eqv])
 | str x=>
  intro b r
  induction b using V.casesOn with
  | str y=>exact fun h=>ve_e (c:=Nat.beq x y) h rfl rfl rfl (by rw [strB ok]; simp only [PyData.eqv])
  | _=>first | exact oNo | exact fun h=>ve_p rfl rfl fun y hy=>oNo hy | exact fun h=>ve_t h rfl rfl fun _=>by simp only [PyData.eqv] | exact fun h=>ve_e h rfl rfl rfl (by simp only [PyData.eqv])
 | kd x=>
  intro b r
  induction b using V.casesOn with
  | kd y=>exact fun h=>ve_e (c:=Nat.beq x y) h rfl rfl rfl (by rw [kdB ok]; simp only [PyData.eqv])
  | int y=>
   intro h
   have h:(match ilt y 16 with | true=>some false | false=>none)=some r:=h
   induction e:ilt y 16 using Bool.casesOn with
   | true=>rw [e] at h; exact ve_e h rfl rfl rfl (by simp only [PyData.eqv]; exact (kdI ok x e).2.symm)
   | false=>rw [e] at h; exact oNo h
  | none=>exact fun h=>ve_e h rfl rfl rfl (by simp only [PyData.eqv])
  | _=>exact oNo
 | si x=>
  intro b r
  induction b using V.casesOn with
  | si y=>exact fun h=>ve_e (c:=r) rfl rfl rfl rfl (by simp only [PyData.eqv]; exact siEq_eq h)
  | none=>exact fun h=>ve_e h rfl rfl rfl (by simp only [PyData.eqv])
  | _=>exact oNo
 | ref x=>exact fun b r h=>⟨fun u v hu hv=>oNo hu,fun u v hu hv=>oNo hu⟩
 | _=>exact fun _ _=>oNo
end Mine
namespace Mine
variable {P:Pm} {W:Wd} {n:Nat}
theorem vdep_tc (x r:V):vdep (.tc x r)=vdep x + vdep r + 1:=rfl
theorem reads_both (ok:POk P) {h₀ h:Heap} {L:Addr} (N:News h₀ L h W.ns):∀ x:V,
  (∀ v,RV P W n x v→vdep x < 1000→∃ d as,pd P x=some d∧d.depth≤vdep x∧d.canLay0=true∧Reads h v d as)∧
  (∀ ys,RT P W n x ys→vdep x < 1000→∃ l as,pds P x=some l∧PyData.depthAll l + 1≤vdep x∧PyData.canLayAll0 l=true∧ReadsAll h ys l as):=by
 intro x
 induction x with
 | tc x r ix ir=>
  have key:∀ ys,RT P W n (.tc x r) ys→vdep (.tc x r) < 1000→∃ l as,pds P (.tc x r)=some l∧PyData.depthAll l + 1≤vdep (.tc x r)∧PyData.canLayAll0 l=true∧ReadsAll h ys l as:=by
   intro ys hr hd
   rw [vdep_tc] at hd ⊢
   simp only [RT] at hr
   obtain ⟨y,zs,rfl,h1,h2⟩:=hr
   obtain ⟨d,as,e1,e2,e3,e4⟩:=ix.1 y h1 (by lia)
   obtain ⟨l,bs,f1,f2,f3,f4⟩:=ir.2 zs h2 (by lia)
   refine ⟨d::l,as ++ bs,?_,?_,?_,.cons e4 f4⟩
   ·rw [pds_tc,e1,f1]; rfl
   ·simp only [PyData.depthAll]; lia
   ·simp only [PyData.canLayAll0,e3,f3]; rfl
  refine ⟨fun v hr hd=>?_,key⟩
  refine pL fun G0 hG0=>?_
  simp only [RV] at hr
  obtain ⟨b,y,ys,rfl,hm,h1,h2⟩:=hr
  obtain ⟨l,as,e1,e2,e3,e4⟩:=key (y::ys) (by simp only [RT]; exact ⟨y,ys,rfl,h1,h2⟩) hd
  refine hG0 ?_
  refine ⟨.tuple l,as,pd_of_pds e1,?_,?_,.tuple (N.get hm) rfl rfl e4⟩
  ·simp only [PyData.depth]; exact e2
  ·simp only [PyData.canLay0]; exact e3
 | tn=>
  refine ⟨fun v hr hd=>?_,fun ys hr hd=>?_⟩
  ·simp only [RV] at hr
   obtain ⟨b,rfl,hm⟩:=hr
   exact ⟨.tuple [],[],rfl,by simp [PyData.depth,PyData.depthAll,vdep],by simp [PyData.canLay0,PyData.canLayAll0],.tuple (N.get hm) rfl rfl .nil⟩
  ·simp only [RT] at hr
   subst hr
   exact ⟨[],[],rfl,by simp [PyData.depthAll,vdep],by simp [PyData.canLayAll0],.nil⟩
 | none=>exact ⟨fun v hr hd=>by simp only [RV] at hr; subst hr; exact ⟨_,_,rfl,by simp [PyData.depth],by simp [PyData.canLay0],.none⟩,fun ys hr=>by simp only [RT] at hr⟩
 | bool b=>exact ⟨fun v hr hd=>by simp only [RV] at hr; subst hr; exact ⟨_,_,rfl,by simp [PyData.depth],by simp [PyData.canLay0],.bool b⟩,fun ys hr=>by simp only [RT] at hr⟩
 | int i=>exact ⟨fun v hr hd=>by simp only [RV] at hr; obtain ⟨t,rfl⟩:=hr; exact ⟨_,_,rfl,by simp [PyData.depth],by simp [PyData.canLay0],.int i t⟩,fun ys hr=>by simp only [RT] at hr⟩
 | str k=>exact ⟨fun v hr hd=>by simp only [RV] at hr; obtain ⟨t,rfl⟩:=hr; exact ⟨_,_,rfl,by simp [PyData.depth],by simp only [PyData.canLay0]; exact ok.nmk k,.str _ t⟩,fun ys hr=>by simp only [RT] at hr⟩
 | si e=>exact ⟨fun v hr hd=>by simp only [RV] at hr; obtain ⟨t,rfl⟩:=hr; exact ⟨_,_,rfl,by simp [PyData.depth],by simp [PyData.canLay0],.int _ t⟩,fun ys hr=>by simp only [RT] at hr⟩
 | kd j=>exact ⟨fun v hr hd=>by simp only [RV] at hr; obtain ⟨t,rfl⟩:=hr; exact ⟨_,_,rfl,by simp [PyData.depth],by simp [PyData.canLay0],.int _ t⟩,fun ys hr=>by simp only [RT] at hr⟩
 | _=>exact ⟨fun v hr hd=>absurd (show (1000:Nat) < 1000 from hd) (Nat.lt_irrefl _),fun ys hr hd=>absurd (show (1000:Nat) < 1000 from hd) (Nat.lt_irrefl _)⟩
theorem vsm_dep {x:V} (h:vsm x=true):vdep x≤60:=by
 induction x using V.casesOn with
 | tc x r=>have h':Nat.ble (vdep (.tc x r)) 60=true:=h; rw [ble_eq,decide_eq_true_iff] at h'; exact h'
 | dyn=>exact bX h
 | ref _=>exact bX h
 | glb _=>exact bX h
 | bad=>exact bX h
 | ub=>exact bX h
 | tn=>show (1:Nat)≤60; lia
 | _=>exact Nat.zero_le _
theorem reads_of (ok:POk P) {h₀ h:Heap} {L:Addr} (N:News h₀ L h W.ns) {x:V} {v:Value} (r:RV P W n x v) (s:vsm x=true) :
  ∃ d as,pd P x=some d∧d.depth≤60∧d.canLay0=true∧Reads h v d as:=by
 refine pL fun G0 hG0=>?_
 have z:=vsm_dep s
 obtain ⟨d,as,a,b,c,e⟩:=(reads_both ok N x).1 v r (by lia)
 refine hG0 ?_
 exact ⟨d,as,a,by lia,c,e⟩
structure Cx where
 loose:List Str
 mg:Str→Option Value
 mb:Str→Option Value
 base:Heap
 h₀:Heap
 outer:List Env
 A₀:Around
 A:Around
 L:Addr
 a:Addr
 cn:Str
 cs:Scope
 ccd:Value
 names:List Str
 cl:List (Str×Addr)
 gens:Array GenState
 os:OsState
noncomputable def Cx.env (C:Cx):Env:=envX C.cn C.cs C.L C.a C.ccd C.cl
structure Cx.Ok (P:Pm) (C:Cx) (d:Nat):Prop where
 pok:POk P
 below:Below C.A₀ C.base C.outer C.h₀
 frames:C.A.frames=some (C.env::C.outer)
 x:P.K.In C.h₀
 t:TopRead P.prog C.loose C.mg C.mb C.h₀
 depth:C.A.depth + 3 * d≤900
 units:C.A.units + 8 * d≤9000
 handled:C.A.handled=none
 kind:C.cs.kind=.function
 nod:C.names.Nodup
 loc:∀ x∈C.names,C.cl.lookup x=none→C.cs.names.lookup x=some .local
 cel:∀ x c,C.cl.lookup x=some c→C.cs.names.lookup x=some .cell
 dbg:∀ x∈C.names,(x == ("__debug__":Str))=false
noncomputable def VarAt (W:Wd) (cl:List (Str×Addr)) (m:Str→Option Value) (x:Str) (y:Value):Prop:=(cl.lookup x=none∧m x=some y)∨∃ c o,cl.lookup x=some c∧(c,o)∈W.ns∧o.data=.cell (some y)
noncomputable def EnvR (P:Pm) (W:Wd) (n:Nat) (cl:List (Str×Addr)) (names:List Str) (env:List V) (m:Str→Option Value):Prop:=
 ∀ (i:Nat) (x:Str) (v:V),names[i]?=some x→env[i]?=some v→v≠.ub→∃ y,VarAt W cl m x y∧RV P W n v y
structure St (P:Pm) (C:Cx) (W:Wd) (h:Hp) (env:List V) (s:Shared):Prop where
 rel:Rel P W h
 fr:∃ m,Fr C.h₀ C.L s.heap m∧EnvR P W h.n C.cl C.names env m
 nw:News C.h₀ C.L s.heap W.ns
 gens:s.gens=C.gens
 os:s.os=C.os
end Mine
namespace Mine
variable {P:Pm} {C:Cx} {W:Wd} {h h':Hp} {env:List V} {s:Shared} {d:Nat}
structure Wk (p:Prop):Prop where
 out:p
noncomputable abbrev Cx.M (P:Pm):Model:=model P.prog P.w
noncomputable def Go (P:Pm) (C:Cx) (W:Wd) (h:Hp) (env:List V) (h':Hp) (v:V) (Q:Value→Shared→Prop):Prop:=
 ∀ W' s' y,Ext W W' h h'→St P C W' h' env s'→RV P W' h'.n v y→Q y s'
theorem St.tok (S:St P C W h env s) (t:Nat):St P C W h env { s with toks:=t }:=⟨S.rel,S.fr,S.nw,S.gens,S.os⟩
theorem Go.here {v:V} {Q:Value→Shared→Prop} {y:Value} (g:Go P C W h env h v Q) (S:St P C W h env s) (t:Nat) (r:RV P W h.n v y):Q y { s with toks:=t }:=g W _ y (Ext.refl W h) (S.tok t) r
theorem Go.now {v:V} {Q:Value→Shared→Prop} {y:Value} (g:Go P C W h env h v Q) (S:St P C W h env s) (r:RV P W h.n v y):Q y s:=g W _ y (Ext.refl W h) S r
theorem rvI {n:Nat} {i:Int} {y:Value} (r:RV P W n (.int i) y):∃ t,y=.int i t:=by simpa only [RV] using r
theorem rvS {n:Nat} {e:SI} {y:Value} (r:RV P W n (.si e) y):∃ t,y=.int (e.val P) t:=by simpa only [RV] using r
theorem rvMk {n:Nat} {i:Int} (t:Tok):RV P W n (.int i) (.int i t):=by simp only [RV]; exact ⟨t,rfl⟩
theorem rvMkS {n:Nat} {e:SI} {i:Int} (t:Tok) (q:e.val P=i):RV P W n (.si e) (.int i t):=by simp only [RV]; exact ⟨t,by rw [q]⟩
noncomputable def opOf:Nat→Operator
 | 0=>.Add | 1=>.Sub | 2=>.Mult | 3=>.FloorDiv | 4=>.Mod | _=>.BitAnd
theorem ifT_v {b:Bool} {r:R} {x:V} (e:ifT b r=.v x h'):b=true∧r=.v x h':=by
 induction b using Bool.casesOn with
 | true=>exact ⟨rfl,e⟩
 | false=>exact rX e
theorem bin_int {A:Around} {E:Value→Shared→Prop} {Q:Value→Shared→Prop} {op:Nat} {a b:Int} {t u:Tok} {v:V} (S:St P C W h env s) (hop:op≤5) (e:binI h op a b=.v v h') (g:Go P C W h env h' v Q) :
  Wk (wpAny (Cx.M P) A (binaryOp (opOf op) (.int a t) (.int b u)) Q E s):=by
 refine ⟨?_⟩
 match op,hop with
 | 0,_=>(obtain ⟨rfl,rfl⟩:=R.v.inj e); exact _root_.PySem.P.add_int (g.here S _ (rvMk _))
 | 1,_=>(obtain ⟨rfl,rfl⟩:=R.v.inj e); exact _root_.PySem.P.sub_int (g.here S _ (rvMk _))
 | k + 2,hop=>
  have e':(match a,b with | .ofNat m,.ofNat n=>binN h (k + 2) m n | _,_=>R.no)=.v v h':=e
  split at e'
  ·rename_i m n
   match k,hop with
   | 0,_=>
    refine pL fun G0 hG0=>?_
    obtain ⟨e1,e2⟩:=ifT_v e'
    (obtain ⟨rfl,rfl⟩:=R.v.inj e2)
    refine hG0 ?_
    have e1:Nat.blt m 1073741824=true:=e1
    rw [blt_eq,decide_eq_true_iff] at e1
    exact _root_.PySem.P.mul_int (g.here S _ (by rw [show Int.ofNat m * Int.ofNat n=Int.ofNat (m * n) from rfl]; exact rvMk _)) (IntMulOk.of_left (intBits_le_64 (by rw [ofN]; lia) (by rw [ofN]; lia)))
   | 1,_=>
    refine pL fun G0 hG0=>?_
    obtain ⟨e1,e2⟩:=ifT_v e'
    (obtain ⟨rfl,rfl⟩:=R.v.inj e2)
    obtain ⟨q1,q2,_⟩:=b3_eq.mp e1
    refine hG0 ?_
    have q1:Nat.blt n 1073741824=true:=q1
    rw [blt_eq,decide_eq_true_iff] at q1 q2
    exact PyProof.Rows.floordiv_int (by rw [ofN]; lia) (g.here S _ (rvMk _)) (.inl (PyProof.noPylong_small (by rw [ofN]; lia)))
   | 2,_=>
    refine pL fun G0 hG0=>?_
    obtain ⟨e1,e2⟩:=ifT_v e'
    cases e2
    refine hG0 ?_
    rw [blt_eq,decide_eq_true_iff] at e1
    exact PyProof.Rows.mod_int' (by rw [ofN]; lia) (g.here S _ (rvMk _))
   | 3,_=>
    cases e'
    refine PyProof.Rows.and_int (g.here S _ ?_)
    have z:Builtin.bitAnd (Int.ofNat m) (Int.ofNat n)=Int.ofNat (Nat.land m n):=by
     unfold Builtin.bitAnd
     rw [decide_eq_true (by rw [ofN]; lia),decide_eq_true (by rw [ofN]; lia)]
     rfl
    rw [z]; exact rvMk _
   | k + 4,hop=>exact absurd hop (by lia)
  ·cases e'
theorem fdd (a:Int) (c d:Nat):Int.fdiv (Int.fdiv a c) d=Int.fdiv a ((c * d:Nat):Int):=by
 rw [Int.fdiv_eq_ediv_of_nonneg _ (by lia),Int.fdiv_eq_ediv_of_nonneg _ (by lia),Int.fdiv_eq_ediv_of_nonneg _ (by lia),Int.ediv_ediv,if_neg (by lia)]
 rw [Int.natCast_mul]; lia
theorem fd1 (a:Int):Int.fdiv a ((1:Nat):Int)=a:=by rw [Int.fdiv_eq_ediv_of_nonneg _ (by lia)]; simp
theorem resOf_mem {k c m r:Nat}:∀ {l:List ((Nat×Nat×Nat)×Nat)},resOf k c m l=some r→((k,c,m),r)∈l
 | [],h=>nomatch h
 | ((a,b,e),q)::l,h=>by
  have h':(match Nat.beq a k with
   | true=>match Nat.beq b c with
    | true=>match Nat.beq e m with | true=>some q | false=>resOf k c m l
    | false=>resOf k c m l
   | false=>resOf k c m l)=some r:=h
  rw [beqD,beqD,beqD] at h'
  by_cases h1:a=k
  ·rw [decide_eq_true h1] at h'
   by_cases h2:b=c
   ·rw [decide_eq_true h2] at h'
    by_cases h3:e=m
    ·rw [decide_eq_true h3] at h'
     (obtain rfl:=Option.some.inj h'); subst h1 h2 h3; exact .head _
    ·rw [decide_eq_false h3] at h'; exact .tail _ (resOf_mem h')
   ·rw [decide_eq_false h2] at h'; exact .tail _ (resOf_mem h')
  ·rw [decide_eq_false h1] at h'; exact .tail _ (resOf_mem h')
theorem addL_get (d:Int):∀ (xs:List Int) (i:Nat),i < xs.length→(addL d xs).getD i 0=xs.getD i 0 + d
 | [],i,hi=>absurd hi (Nat.not_lt_zero _)
 | x::xs,0,_=>rfl
 | x::xs,i + 1,hi=>by
  have:=addL_get d xs i (by simpa using hi)
  simpa [addL] using this
theorem addL_len (d:Int):∀ (xs:List Int),(addL d xs).length=xs.length
 | []=>rfl
 | x::xs=>by show (addL d xs).length + 1=_; rw [addL_len d xs]; rfl
theorem siAdd_val {e:SI} {y:Int} {v:V} (q:siAdd h e y=.v v h'):h'=h∧∃ e',v=.si e'∧e'.val P=e.val P + y:=by
 cases e with
 | r k c m a b=>(obtain ⟨rfl,rfl⟩:=R.v.inj q); refine ⟨rfl,_,rfl,?_⟩; simp only [SI.val]; generalize b * _=z; lia
 | p k c m xs=>
  obtain ⟨q1,q2⟩:=ifT_v q
  (obtain ⟨rfl,rfl⟩:=R.v.inj q2)
  obtain ⟨z1,z2,_⟩:=b3_eq.mp q1
  rw [blt_eq,decide_eq_true_iff] at z1
  rw [ble_eq,decide_eq_true_iff] at z2
  refine ⟨rfl,_,rfl,?_⟩
  simp only [SI.val]
  exact addL_get _ _ _ (Nat.lt_of_lt_of_le (fmod_lt _ z1) z2)
 | _=>exact rX q
theorem bin_si {A:Around} {E:Value→Shared→Prop} {Q:Value→Shared→Prop} {op:Nat} {a:SI} {b i:Int} {t u:Tok} {v:V} (ok:POk P) (hi:i=a.val P) (S:St P C W h env s) (e:binS h op a b=.v v h') (g:Go P C W h env h' v Q) :
  Wk (wpAny (Cx.M P) A (binaryOp (opOf op) (.int i t) (.int b u)) Q E s):=by
 refine ⟨?_⟩
 subst hi
 match op,e with
 | 0,e=>
  refine pL fun G0 hG0=>?_
  obtain ⟨rfl,e',rfl,z⟩:=siAdd_val (P:=P) e
  refine hG0 ?_
  exact _root_.PySem.P.add_int (g.here S _ (rvMkS _ z))
 | 3,e=>
  induction b using Int.casesOn with
  | negSucc b=>exact rX e
  | ofNat m=>
   have e:siDiv h a m=.v v h':=e
   cases a with
   | n k c=>
    refine pL fun G0 hG0=>?_
    obtain ⟨e1,e2⟩:=ifT_v e
    (obtain ⟨rfl,rfl⟩:=R.v.inj e2)
    obtain ⟨q1,q2,_⟩:=b3_eq.mp e1
    refine hG0 ?_
    have q1:Nat.blt m 1073741824=true:=q1
    rw [blt_eq,decide_eq_true_iff] at q1 q2
    exact PyProof.Rows.floordiv_int (by rw [ofN]; lia) (g.here S _ (rvMkS _ (fdd _ _ _).symm)) (.inl (PyProof.noPylong_small (by rw [ofN]; lia)))
   | _=>exact rX e
 | 4,e=>
  induction b using Int.casesOn with
  | negSucc b=>exact rX e
  | ofNat m=>
   have e:siMod h a m=.v v h':=e
   induction a using SI.casesOn with
   | n k c=>
    obtain ⟨e1,e2⟩:=ifT_v e
    rw [blt_eq,decide_eq_true_iff] at e1
    split at e2
    ·rename_i r hr
     (obtain ⟨rfl,rfl⟩:=R.v.inj e2)
     have z:=S.rel.res _ (resOf_mem hr)
     refine PyProof.Rows.mod_int' (by rw [ofN]; lia) (g.here S _ ?_)
     show RV P W h.n _ (.int (Int.fmod (Int.fdiv (P.io k) c) (m:Int)) _)
     rw [z]; exact rvMk _
    ·(obtain ⟨rfl,rfl⟩:=R.v.inj e2)
     refine PyProof.Rows.mod_int' (by rw [ofN]; lia) (g.here S _ (rvMkS _ ?_))
     simp only [SI.val]; rw [ofN]; lia
   | raw k=>
    obtain ⟨e1,e2⟩:=ifT_v e
    rw [beqD,decide_eq_true_iff] at e1
    cases e2
    subst e1
    refine PyProof.Rows.mod_int' (by decide) (g.here S _ (rvMkS _ ?_))
    simp only [SI.val]; rw [fd1,ok.io]; rfl
   | _=>cases e
 | 1,e=>cases e
 | 2,e=>cases e
 | k + 5,e=>cases e
theorem bin_si' {A:Around} {E:Value→Shared→Prop} {Q:Value→Shared→Prop} {op:Nat} {a:SI} {b i:Int} {t u:Tok} {v:V} (hi:i=a.val P) (S:St P C W h env s) (e:binS' h op b a=.v v h') (g:Go P C W h env h' v Q) :
  Wk (wpAny (Cx.M P) A (binaryOp (opOf op) (.int b t) (.int i u)) Q E s):=by
 refine ⟨?_⟩
 subst hi
 match op,e with
 | 0,e=>
  refine pL fun G0 hG0=>?_
  obtain ⟨rfl,e',rfl,z⟩:=siAdd_val (P:=P) e
  refine hG0 ?_
  exact _root_.PySem.P.add_int (g.here S _ (rvMkS _ (by rw [z]; lia)))
 | 1,e=>
  cases a with
  | r k c m x y=>
   (obtain ⟨rfl,rfl⟩:=R.v.inj e)
   refine _root_.PySem.P.sub_int (g.here S _ (rvMkS _ ?_))
   simp only [SI.val]
   rw [Int.neg_mul]; generalize y * _=z; lia
  | _=>exact rX e
 | k + 2,e=>cases e
end Mine
namespace Mine
variable {P:Pm} {C:Cx} {W:Wd} {h h':Hp} {env:List V} {s:Shared} {d n:Nat}
noncomputable def toLgo (t:Tr V) (n:Nat):List V→Option (List V):=Nat.rec (fun acc=>some acc) (fun k ih acc=>match t.get k with | some v=>ih (v::acc) | none=>none) n
theorem toL_go (t:Tr V) (n:Nat):toL t n=toLgo t n []:=rfl
theorem toLgo_spec (t:Tr V):∀ (n:Nat) (acc xs:List V),toLgo t n acc=some xs→∃ l,xs=l ++ acc∧l.length=n∧∀ i,i < n→t.get i=l[i]?
 | 0,acc,xs,e=>by (obtain rfl:=Option.some.inj e); exact ⟨[],rfl,rfl,fun i hi=>absurd hi (Nat.not_lt_zero _)⟩
 | n + 1,acc,xs,e=>by
  have e':(match t.get n with | some v=>toLgo t n (v::acc) | none=>none)=some xs:=e
  split at e'
  ·rename_i v hv
   obtain ⟨l,rfl,hl,hi⟩:=toLgo_spec t n (v::acc) xs e'
   refine ⟨l ++ [v],by simp,by simp [hl],fun i hlt=>?_⟩
   by_cases q:i < n
   ·rw [hi i q,List.getElem?_append_left (by lia)]
   ·obtain rfl:i=n:=by lia
    rw [hv,List.getElem?_append_right (by lia),hl]; simp
  ·exact oX e'
theorem toL_spec {t:Tr V} {n:Nat} {xs:List V} (e:toL t n=some xs):xs.length=n∧∀ i,i < n→t.get i=xs[i]?:=by
 obtain ⟨l,rfl,hl,hi⟩:=toLgo_spec t n [] xs (toL_go t n▸e)
 simp only [List.append_nil]
 exact ⟨hl,hi⟩
theorem rvs_of_idx:∀ (xs:List V) (ys:List Value),xs.length=ys.length→(∀ (i:Nat) (v:V),xs[i]?=some v→∃ y,ys[i]?=some y∧RV P W n v y)→RVs P W n xs ys
 | [],[],_,_=>.nil
 | [],_::_,e,_=>nomatch e
 | _::_,[],e,_=>nomatch e
 | x::xs,y::ys,e,k=>by
  obtain ⟨y',h1,h2⟩:=k 0 x rfl
  (obtain rfl:=Option.some.inj h1)
  exact .cons h2 (rvs_of_idx xs ys (by simpa using e) fun i v q=>k (i + 1) v q)
theorem RVs.len {xs:List V} {ys:List Value} (r:RVs P W n xs ys):xs.length=ys.length:=by
 induction r with
 | nil=>rfl
 | cons _ _ ih=>simp [ih]
theorem RVs.get {xs:List V} {ys:List Value} (r:RVs P W n xs ys) {i:Nat} {v:V} (e:xs[i]?=some v):∃ y,ys[i]?=some y∧RV P W n v y:=by
 induction r generalizing i with
 | nil=>exact oX e
 | cons a _ ih=>
  induction i using Nat.casesOn with
  | zero=>(obtain rfl:=Option.some.inj e); exact ⟨_,rfl,a⟩
  | succ i=>exact ih e
theorem RVs.app {xs xs':List V} {ys ys':List Value} (r:RVs P W n xs ys) (r':RVs P W n xs' ys'):RVs P W n (xs ++ xs') (ys ++ ys'):=by
 induction r with
 | nil=>exact r'
 | cons a _ ih=>exact .cons a ih
theorem list_rvs {k:Nat} {t:Tr V} {xs:List V} {its:Array Value} (e:toL t k=some xs) (hs:its.size=k) (hi:∀ i v,i < k→t.get i=some v→∃ x,its[i]?=some x∧RV P W n v x):RVs P W n xs its.toList:=by
 obtain ⟨h1,h2⟩:=toL_spec e
 refine rvs_of_idx _ _ (by rw [h1,← hs,Array.length_toList]) fun i v q=>?_
 have hlt:i < k:=by rw [← h1]; exact (List.getElem?_eq_some_iff.mp q).1
 obtain ⟨x,a,b⟩:=hi i v hlt ((h2 i hlt).trans q)
 exact ⟨x,by rw [Array.getElem?_toList]; exact a,b⟩
theorem tupL_rt:∀ (v:V) (xs:List V),tupL v=some xs→∀ ys,RT P W n v ys→RVs P W n xs ys:=by
 intro v
 induction v with
 | tn=>intro xs e ys r; (obtain rfl:=Option.some.inj e); simp only [RT] at r; subst r; exact .nil
 | tc x r _ ir=>
  intro xs e ys q
  simp only [RT] at q
  obtain ⟨y,zs,rfl,h1,h2⟩:=q
  have e':(match tupL r with | some l=>some (x::l) | none=>none)=some xs:=e
  split at e'
  ·rename_i l hl; (obtain rfl:=Option.some.inj e'); exact .cons h1 (ir l hl zs h2)
  ·exact oX e'
 | _=>intro xs e ys r; simp only [RT] at r
theorem tupL_rv {v:V} {xs:List V} (e:tupL v=some xs) {y:Value} (r:RV P W n v y):∃ b ys,y=.ref b∧(b,tupO ys)∈W.ns∧RVs P W n xs ys∧RT P W n v ys:=by
 induction v using V.casesOn with
 | tn=>(obtain rfl:=Option.some.inj e); simp only [RV] at r; obtain ⟨b,rfl,hm⟩:=r; exact ⟨b,[],rfl,hm,.nil,by simp only [RT]⟩
 | tc x t=>
  refine pL fun G0 hG0=>?_
  simp only [RV] at r
  obtain ⟨b,y,ys,rfl,hm,h1,h2⟩:=r
  refine hG0 ?_
  have rt:RT P W n (.tc x t) (y::ys):=by simp only [RT]; exact ⟨y,ys,rfl,h1,h2⟩
  exact ⟨b,y::ys,rfl,hm,tupL_rt _ _ e _ rt,rt⟩
 | _=>exact oX e
theorem mkT_rt {xs:List V} {ys:List Value} (r:RVs P W n xs ys):RT P W n (mkT xs) ys:=by
 induction r with
 | nil=>show RT P W n .tn _; simp only [RT]
 | @cons x v xs vs a _ ih=>show RT P W n (.tc x (mkT xs)) _; simp only [RT]; exact ⟨_,_,rfl,a,ih⟩
theorem rt_rv {v:V} {ys:List Value} (r:RT P W n v ys) {b:Addr} (m:(b,tupO ys)∈W.ns):RV P W n v (.ref b):=by
 induction v using V.casesOn with
 | tn=>simp only [RT] at r; subst r; simp only [RV]; exact ⟨b,rfl,m⟩
 | tc x t=>simp only [RT] at r; obtain ⟨y,zs,rfl,h1,h2⟩:=r; simp only [RV]; exact ⟨b,y,zs,rfl,m,h1,h2⟩
 | _=>simp only [RT] at r
theorem smL_cons {x:V} {l:List V} (e:smL (x::l)=true):vsm x=true∧smL l=true:=by
 have e':(match vsm x with | true=>smL l | false=>false)=true:=e
 split at e'
 ·rename_i q; exact ⟨q,e'⟩
 ·exact bX e'
inductive PDs (P:Pm):List V→List PyData→Prop
 | nil:PDs P [] []
 | cons {x d xs ds}:pd P x=some d→PDs P xs ds→PDs P (x::xs) (d::ds)
theorem readsAll_of (ok:POk P) {h₀ hp:Heap} {L:Addr} (N:News h₀ L hp W.ns) {xs:List V} {ys:List Value} (r:RVs P W n xs ys) (e:smL xs=true) :
  ∃ ds as,PDs P xs ds∧PyData.depthAll ds≤60∧PyData.canLayAll0 ds=true∧ReadsAll hp ys ds as:=by
 induction r with
 | nil=>exact ⟨[],[],.nil,by simp [PyData.depthAll],by simp [PyData.canLayAll0],.nil⟩
 | cons a _ ih=>
  refine pL fun G0 hG0=>?_
  obtain ⟨e1,e2⟩:=smL_cons e
  obtain ⟨ds,as,q1,q2,q3,q4⟩:=ih e2
  obtain ⟨d,bs,p1,p2,p3,p4⟩:=reads_of ok N a e1
  refine hG0 ?_
  refine ⟨d::ds,bs ++ as,.cons p1 q1,?_,?_,.cons p4 q4⟩
  ·simp only [PyData.depthAll]; lia
  ·simp only [PyData.canLayAll0,p3,q3]; rfl
theorem eqL_eq' (ok:POk P) {a:List V} {x:List PyData} (p:PDs P a x):∀ {b:List V} {y:List PyData} (r:Bool),PDs P b y→eqL a b=some r→r=PyData.eqvAll x y:=by
 induction p with
 | nil=>
  intro b y r q
  cases q with
  | nil=>exact fun e=>by rw [← Option.some.inj e]; simp only [PyData.eqvAll]
  | cons=>exact fun e=>by rw [← Option.some.inj e]; simp only [PyData.eqvAll]
 | cons p1 p2 ih=>
  intro b y r q
  cases q with
  | nil=>exact fun e=>by rw [← Option.some.inj e]; simp only [PyData.eqvAll]
  | cons q1 q2=>
   intro e
   simp only [PyData.eqvAll]
   rcases oAnd_some (show oAnd _ _=some r from e) with ⟨e1,e2⟩ | ⟨e1,e2⟩
   ·rw [← (veq_eq ok _ _ _ e1).1 _ _ p1 q1,e2]; rfl
   ·rw [← (veq_eq ok _ _ _ e1).1 _ _ p1 q1,← ih r q2 e2]; rfl
theorem eqL_eq (ok:POk P) (a b:List V) (r:Bool) (e:eqL a b=some r) (x y:List PyData) (p:PDs P a x) (q:PDs P b y):r=PyData.eqvAll x y:=eqL_eq' ok p r q e
theorem memL_eq (ok:POk P) {k:V} {dk:PyData} (hk:pd P k=some dk) (l:List V) (r:Bool) (e:memL k l=some r) (ds:List PyData) (p:PDs P l ds):r=ds.any fun y=>PyData.eqv y dk:=by
 induction p with
 | nil=>exact (Option.some.inj e).symm
 | @cons x a l' ds' p1 p2 ih=>
  have e':(match veq x k with | some true=>some true | some false=>memL k l' | none=>none)=some r:=e
  rw [List.any_cons]
  induction w:veq x k using Option.casesOn with
  | none=>rw [w] at e'; exact oX e'
  | some b=>
   rw [w] at e'
   rw [← (veq_eq ok _ _ _ w).1 _ _ p1 hk]
   induction b using Bool.casesOn with
   | true=>exact (Option.some.inj e').symm
   | false=>exact ih e'
theorem pds_PDs:∀ (v:V) (xs:List V),tupL v=some xs→∀ l,pds P v=some l→PDs P xs l:=by
 intro v
 induction v with
 | tn=>intro xs e l q; (obtain rfl:=Option.some.inj e); (obtain rfl:=Option.some.inj q); exact .nil
 | tc x r _ ir=>
  intro xs e l q
  rw [pds_tc] at q
  obtain ⟨a1,ha,q⟩:=Option.bind_eq_some_iff.mp q
  obtain ⟨l1,hl,rfl⟩:=Option.map_eq_some_iff.mp q
  have e':(match tupL r with | some l=>some (x::l) | none=>none)=some xs:=e
  split at e'
  ·rename_i l hl'; (obtain rfl:=Option.some.inj e'); exact .cons ha (ir l hl' _ hl)
  ·exact oX e'
 | _=>intro xs e l q; exact oX e
end Mine
namespace Mine
mutual
noncomputable def KI (h:Heap):KD→Value→Prop
 | .int i,v=>∃ t,v=.int i t
 | .str x,v=>∃ t,v=.str x t
 | .tn,v=>∃ b,v=.ref b∧h.get? b=some (tupO [])
 | .tc x r,v=>∃ b y ys,v=.ref b∧h.get? b=some (tupO (y::ys))∧KI h x y∧KIs h r ys
noncomputable def KIs (h:Heap):KD→List Value→Prop
 | .tn,ys=>ys=[]
 | .tc x r,ys=>∃ y zs,ys=y::zs∧KI h x y∧KIs h r zs
 | .int _,_=>False
 | .str _,_=>False
end
theorem tup_inj {a b:List Value} (e:tupO a=tupO b):a=b:=by
 have:(tupO a).data=(tupO b).data:=by rw [e]
 injection this with h1 h2
 simpa using h1
theorem ki_inj {h:Heap}:∀ x:KD,(∀ y v,KI h x v→KI h y v→x=y)∧(∀ y vs,KIs h x vs→KIs h y vs→x=y):=by
 intro x
 induction x with
 | int i=>
  refine ⟨fun y v a b=>?_,fun y vs a=>by simp only [KIs] at a⟩
  simp only [KI] at a
  obtain ⟨t,rfl⟩:=a
  cases y with
  | int j=>simp only [KI] at b; obtain ⟨u,e⟩:=b; cases e; rfl
  | str z=>simp only [KI] at b; obtain ⟨u,e⟩:=b; cases e
  | tn=>simp only [KI] at b; obtain ⟨u,e,_⟩:=b; cases e
  | tc z r=>simp only [KI] at b; obtain ⟨u,_,_,e,_⟩:=b; cases e
 | str i=>
  refine ⟨fun y v a b=>?_,fun y vs a=>by simp only [KIs] at a⟩
  simp only [KI] at a
  obtain ⟨t,rfl⟩:=a
  cases y with
  | int j=>simp only [KI] at b; obtain ⟨u,e⟩:=b; cases e
  | str z=>simp only [KI] at b; obtain ⟨u,e⟩:=b; cases e; rfl
  | tn=>simp only [KI] at b; obtain ⟨u,e,_⟩:=b; cases e
  | tc z r=>simp only [KI] at b; obtain ⟨u,_,_,e,_⟩:=b; cases e
 | tn=>
  refine ⟨fun y v a b=>?_,fun y vs a b=>?_⟩
  ·simp only [KI] at a
   obtain ⟨t,rfl,a⟩:=a
   cases y with
   | int j=>simp only [KI] at b; obtain ⟨u,e⟩:=b; cases e
   | str z=>simp only [KI] at b; obtain ⟨u,e⟩:=b; cases e
   | tn=>rfl
   | tc z r=>simp only [KI] at b; obtain ⟨u,p,q,e,f,_⟩:=b; cases e; rw [a] at f; cases tup_inj (Option.some.inj f)
  ·simp only [KIs] at a; subst a
   cases y with
   | int j=>simp only [KIs] at b
   | str z=>simp only [KIs] at b
   | tn=>rfl
   | tc z r=>simp only [KIs] at b; obtain ⟨u,p,e,_⟩:=b; exact lX e
 | tc x r ix ir=>
  have key:∀ y vs,KIs h (.tc x r) vs→KIs h y vs→KD.tc x r=y:=by
   intro y vs a b
   simp only [KIs] at a
   obtain ⟨u,p,rfl,a1,a2⟩:=a
   cases y with
   | int j=>simp only [KIs] at b
   | str z=>simp only [KIs] at b
   | tn=>simp only [KIs] at b; exact lX b
   | tc z r=>simp only [KIs] at b; obtain ⟨u',p',e,b1,b2⟩:=b; cases e; rw [ix.1 _ _ a1 b1,ir.2 _ _ a2 b2]
  refine ⟨fun y v a b=>?_,key⟩
  simp only [KI] at a
  obtain ⟨t,u,us,rfl,a,a1,a2⟩:=a
  have z:KIs h (.tc x r) (u::us):=by simp only [KIs]; exact ⟨u,us,rfl,a1,a2⟩
  cases y with
  | int j=>simp only [KI] at b; obtain ⟨u,e⟩:=b; cases e
  | str z=>simp only [KI] at b; obtain ⟨u,e⟩:=b; cases e
  | tn=>simp only [KI] at b; obtain ⟨u,e,b⟩:=b; cases e; rw [a] at b; cases tup_inj (Option.some.inj b)
  | tc z' r'=>
   refine pL fun G0 hG0=>?_
   simp only [KI] at b
   obtain ⟨u',p',q',e,f,b1,b2⟩:=b
   cases e
   refine hG0 ?_
   rw [a] at f
   cases tup_inj (Option.some.inj f)
   exact key _ _ z (by simp only [KIs]; exact ⟨_,_,rfl,b1,b2⟩)
theorem ki_keeps {h h':Heap} (k:∀ b ys,h.get? b=some (tupO ys)→h'.get? b=some (tupO ys)):∀ x:KD,(∀ v,KI h x v→KI h' x v)∧(∀ vs,KIs h x vs→KIs h' x vs):=by
 intro x
 induction x with
 | int i=>exact ⟨fun v a=>by simpa only [KI] using a,fun vs a=>by simp only [KIs] at a⟩
 | str i=>exact ⟨fun v a=>by simpa only [KI] using a,fun vs a=>by simp only [KIs] at a⟩
 | tn=>exact ⟨fun v a=>by simp only [KI] at a ⊢; obtain ⟨b,e,a⟩:=a; exact ⟨b,e,k _ _ a⟩,fun vs a=>by simpa only [KIs] using a⟩
 | tc x r ix ir=>
  refine ⟨fun v a=>?_,fun vs a=>?_⟩
  ·simp only [KI] at a ⊢
   refine pL fun G0 hG0=>?_
   obtain ⟨b,y,ys,e,q,a1,a2⟩:=a
   refine hG0 ?_
   exact ⟨b,y,ys,e,k _ _ q,ix.1 _ a1,ir.2 _ a2⟩
  ·simp only [KIs] at a ⊢
   refine pL fun G0 hG0=>?_
   obtain ⟨y,zs,e,a1,a2⟩:=a
   refine hG0 ?_
   exact ⟨y,zs,e,ix.1 _ a1,ir.2 _ a2⟩
noncomputable def KD.hash1 (w:World) (k:KD):Int:=hashW w.params k.w2.1
noncomputable def KD.hashes (w:World) (k:KD):List Int:=hashesW w.params k.w2.2
noncomputable def KD.dr:KD→Nat×Nat
 | .int _=>(1,0)
 | .str _=>(1,0)
 | .tn=>(1,0)
 | .tc x r=>(x.dr.1 + r.dr.2 + 1,x.dr.1 + r.dr.2)
section
variable {prog:Program} {w:World} {E:Value→Shared→Prop}
theorem hashTup {A:Around} {s:Shared} {a:Addr} {ys:List Value} {hs:List Int} {n:Nat} {Q:Int→Shared→Prop} (hu:A.units < cLine) (ho:s.heap.get? a=some (tupO ys))
  (body:∀ Q':Array Int→Shared→Prop,(∀ b,b.toList=hs→Q' b { s with toks:=s.toks + n })→wpAny (model prog w) A.in1 (forIn ys #[] fun x r=>do let h ← pyHash x; pure PUnit.unit; pure (ForInStep.yield (r.push h))) Q' E s)
  (h:Q (reduceHash (Builtin.Tuple.tupleHashOf hs)) { s with toks:=s.toks + (n + 1) }):wpAny (model prog w) A (pyHash (.ref a)) Q E s:=by
 refine pyHash_slot (T:="tuple") ⟨_,ho,rfl⟩ F.slot_tuple_hash F.entry_tuple_hash (F.args_tuple_hash_1 _) (beq_builtin_none _) (.inr hu) ?_
 show wpAny _ _ (Builtin.Tuple.tupleItemsOf (.ref a) >>= _) _ _ s
 refine wpAny_bind (wpAny_tupleItemsOf ho rfl ?_)
 refine wpAny_bind ?_
 rw [← Array.forIn_toList]
 refine body _ fun b hb=>?_
 show wpAny _ _ (retInt (Builtin.Tuple.tupleHashOf b.toList)) _ _ _
 rw [hb]
 exact wpAny_bind (wpAny_mkInt (wpAny_pure ⟨_,_,rfl,by simpa [Nat.add_assoc] using h⟩))
theorem ki_hash:∀ (x:KD),(∀ (A:Around) (s:Shared) (v:Value) (Q:Int→Shared→Prop),KI s.heap x v→A.units + x.nest < cLine→Q (x.hash1 w) { s with toks:=s.toks + x.dr.1 }→wpAny (model prog w) A (pyHash v) Q E s)∧
  (∀ (A:Around) (s:Shared) (vs:List Value) (b:Array Int) (Q:Array Int→Shared→Prop),KIs s.heap x vs→A.units + x.nest≤cLine→(∀ b',b'.toList=b.toList ++ x.hashes w→Q b' { s with toks:=s.toks + x.dr.2 })→
   wpAny (model prog w) A (forIn vs b fun x r=>do let h ← pyHash x; pure PUnit.unit; pure (ForInStep.yield (r.push h))) Q E s):=by
 intro x
 induction x with
 | int i=>
  refine ⟨fun A s v Q k hu h=>?_,fun A s vs b Q k=>by simp only [KIs] at k⟩
  simp only [KI] at k; obtain ⟨t,rfl⟩:=k
  exact wpAny_pyHash_int (by have e:=hashW_int w.params i; rw [← e]; exact h)
 | str i=>
  refine ⟨fun A s v Q k hu h=>?_,fun A s vs b Q k=>by simp only [KIs] at k⟩
  simp only [KI] at k; obtain ⟨t,rfl⟩:=k
  exact wpAny_pyHash_str h
 | tn=>
  refine ⟨fun A s v Q k hu h=>?_,fun A s vs b Q k hu h=>?_⟩
  ·simp only [KI] at k; obtain ⟨a,rfl,ho⟩:=k
   simp only [KD.nest] at hu
   exact hashTup (hs:=[]) (n:=0) (by lia) ho (fun Q' q=>wpAny_pure (q #[] rfl)) h
  ·simp only [KIs] at k; subst k
   exact wpAny_pure (h b (by simp [KD.hashes,KD.w2,hashesW]))
 | tc x r ix ir=>
  have key:∀ (A:Around) (s:Shared) (vs:List Value) (b:Array Int) (Q:Array Int→Shared→Prop),KIs s.heap (.tc x r) vs→A.units + (KD.tc x r).nest≤cLine→(∀ b',b'.toList=b.toList ++ (KD.tc x r).hashes w→Q b' { s with toks:=s.toks + (KD.tc x r).dr.2 })→
   wpAny (model prog w) A (forIn vs b fun x r=>do let h ← pyHash x; pure PUnit.unit; pure (ForInStep.yield (r.push h))) Q E s:=by
   intro A s vs b Q k hu h
   refine pL fun G0 hG0=>?_
   simp only [KIs] at k
   obtain ⟨y,zs,rfl,k1,k2⟩:=k
   refine hG0 ?_
   simp only [KD.nest] at hu
   rw [List.forIn_cons]
   refine wpAny_bind (wpAny_bind (ix.1 A s y _ k1 (by lia) ?_))
   refine wpAny_bind (wpAny_pure (wpAny_pure ?_))
   refine ir.2 A { s with toks:=s.toks + x.dr.1 } zs _ Q k2 (by lia) fun b' hb=>?_
   have z:=h b' (by rw [hb]; simp [KD.hashes,KD.w2,hashesW,KD.hash1])
   simpa [KD.dr,Nat.add_assoc] using z
  refine ⟨fun A s v Q k hu h=>?_,key⟩
  simp only [KI] at k; obtain ⟨a,y,ys,rfl,ho,k1,k2⟩:=k
  have hu':A.units + 1 + (KD.tc x r).nest≤cLine:=by lia
  refine hashTup (hs:=(KD.tc x r).hashes w) (n:=(KD.tc x r).dr.2) (by lia) ho (fun Q' q=>?_) ?_
  ·exact key A.in1 s _ #[] Q' (by simp only [KIs]; exact ⟨y,ys,rfl,k1,k2⟩) hu' fun b hb=>q b (by simpa using hb)
  ·exact h
end
end Mine
namespace Mine
noncomputable def KD.p2:KD→PyData×List PyData
 | .int i=>(.int i,[])
 | .str x=>(.str x,[])
 | .tn=>(.tuple [],[])
 | .tc x r=>(.tuple (x.p2.1::r.p2.2),x.p2.1::r.p2.2)
theorem ki_reads {h:Heap}:∀ x:KD,(∀ v,KI h x v→∃ as,Reads h v x.p2.1 as)∧(∀ vs,KIs h x vs→∃ as,ReadsAll h vs x.p2.2 as):=by
 intro x
 induction x with
 | int i=>exact ⟨fun v a=>by simp only [KI] at a; obtain ⟨t,rfl⟩:=a; exact ⟨_,.int i t⟩,fun vs a=>by simp only [KIs] at a⟩
 | str i=>exact ⟨fun v a=>by simp only [KI] at a; obtain ⟨t,rfl⟩:=a; exact ⟨_,.str i t⟩,fun vs a=>by simp only [KIs] at a⟩
 | tn=>exact ⟨fun v a=>by simp only [KI] at a; obtain ⟨b,rfl,ho⟩:=a; exact ⟨_,.tuple ho rfl rfl .nil⟩,fun vs a=>by simp only [KIs] at a; subst a; exact ⟨_,.nil⟩⟩
 | tc x r ix ir=>
  have key:∀ vs,KIs h (.tc x r) vs→∃ as,ReadsAll h vs (KD.tc x r).p2.2 as:=by
   intro vs a
   refine pL fun G0 hG0=>?_
   simp only [KIs] at a
   obtain ⟨y,zs,rfl,a1,a2⟩:=a
   obtain ⟨as,p⟩:=ix.1 y a1
   obtain ⟨bs,q⟩:=ir.2 zs a2
   refine hG0 ?_
   exact ⟨_,.cons p q⟩
  refine ⟨fun v a=>?_,key⟩
  refine pL fun G0 hG0=>?_
  simp only [KI] at a
  obtain ⟨b,y,ys,rfl,ho,a1,a2⟩:=a
  obtain ⟨as,q⟩:=key (y::ys) (by simp only [KIs]; exact ⟨y,ys,rfl,a1,a2⟩)
  refine hG0 ?_
  exact ⟨_,.tuple ho rfl rfl q⟩
theorem kd_lay:∀ x:KD,x.txt=true→x.p2.1.canLay0=true∧PyData.canLayAll0 x.p2.2=true:=by
 intro x
 induction x with
 | int i=>intro _; exact ⟨by simp [KD.p2,PyData.canLay0],by simp [KD.p2,PyData.canLayAll0]⟩
 | str i=>intro h; exact ⟨by simpa [KD.p2,PyData.canLay0,KD.txt] using h,by simp [KD.p2,PyData.canLayAll0]⟩
 | tn=>intro _; exact ⟨by simp [KD.p2,PyData.canLay0,PyData.canLayAll0],by simp [KD.p2,PyData.canLayAll0]⟩
 | tc x r ix ir=>
  intro h
  simp only [KD.txt,Bool.and_eq_true] at h
  have a:=ix h.1
  have b:=ir h.2
  simp [KD.p2,PyData.canLay0,PyData.canLayAll0,a.1,b.2]
theorem kd_depth:∀ x:KD,x.p2.1.depth≤x.nest∧PyData.depthAll x.p2.2 + 1≤max x.nest 1:=by
 intro x
 induction x with
 | int i=>exact ⟨by simp [KD.p2,PyData.depth],by simp only [KD.p2,PyData.depthAll]; exact Nat.le_max_right _ _⟩
 | str i=>exact ⟨by simp [KD.p2,PyData.depth],by simp only [KD.p2,PyData.depthAll]; exact Nat.le_max_right _ _⟩
 | tn=>exact ⟨by simp [KD.p2,PyData.depth,PyData.depthAll,KD.nest],by simp only [KD.p2,PyData.depthAll]; exact Nat.le_max_right _ _⟩
 | tc x r ix ir=>
  have z:PyData.depthAll (KD.tc x r).p2.2 + 1≤(KD.tc x r).nest:=by
   simp only [KD.p2,PyData.depthAll,KD.nest]
   omega
  refine ⟨?_,by omega⟩
  simp only [KD.p2,PyData.depth]
  simpa only [KD.p2] using z
theorem ki_eqv {h:Heap}:∀ x:KD,(∀ y u v,KI h x u→KI h y v→PyData.eqv x.p2.1 y.p2.1=decide (x=y))∧(∀ y us vs,KIs h x us→KIs h y vs→PyData.eqvAll x.p2.2 y.p2.2=decide (x=y)):=by
 intro x
 induction x with
 | int i=>
  refine ⟨fun y u v a b=>?_,fun y u v a=>by simp only [KIs] at a⟩
  cases y with
  | int j=>simp [KD.p2,PyData.eqv]; rw [Bool.eq_iff_iff,beq_iff_eq,decide_eq_true_iff]
  | str j=>simp [KD.p2,PyData.eqv]
  | tn=>simp [KD.p2,PyData.eqv]
  | tc z r=>simp [KD.p2,PyData.eqv]
 | str i=>
  refine ⟨fun y u v a b=>?_,fun y u v a=>by simp only [KIs] at a⟩
  cases y with
  | int j=>simp [KD.p2,PyData.eqv]
  | str j=>simp [KD.p2,PyData.eqv]; rw [Bool.eq_iff_iff,beq_iff_eq,decide_eq_true_iff]
  | tn=>simp [KD.p2,PyData.eqv]
  | tc z r=>simp [KD.p2,PyData.eqv]
 | tn=>
  refine ⟨fun y u v a b=>?_,fun y us vs a b=>?_⟩
  ·cases y with
   | int j=>simp [KD.p2,PyData.eqv]
   | str j=>simp [KD.p2,PyData.eqv]
   | tn=>simp [KD.p2,PyData.eqv,PyData.eqvAll]
   | tc z r=>simp [KD.p2,PyData.eqv,PyData.eqvAll]
  ·cases y with
   | int j=>simp only [KIs] at b
   | str j=>simp only [KIs] at b
   | tn=>simp [KD.p2,PyData.eqvAll]
   | tc z r=>simp [KD.p2,PyData.eqvAll]
 | tc x r ix ir=>
  have key:∀ y us vs,KIs h (.tc x r) us→KIs h y vs→PyData.eqvAll (KD.tc x r).p2.2 y.p2.2=decide (KD.tc x r=y):=by
   intro y us vs a b
   simp only [KIs] at a
   obtain ⟨u,us',rfl,a1,a2⟩:=a
   cases y with
   | int j=>simp only [KIs] at b
   | str j=>simp only [KIs] at b
   | tn=>simp [KD.p2,PyData.eqvAll]
   | tc z q=>
    refine pL fun G0 hG0=>?_
    simp only [KIs] at b
    obtain ⟨v,vs',rfl,b1,b2⟩:=b
    refine hG0 ?_
    simp only [KD.p2,PyData.eqvAll]
    rw [ix.1 z u v a1 b1,ir.2 q us' vs' a2 b2]
    by_cases e1:x=z <;> by_cases e2:r=q <;> simp [e1,e2]
  refine ⟨fun y u v a b=>?_,key⟩
  simp only [KI] at a
  obtain ⟨p,w,ws,rfl,ho,a1,a2⟩:=a
  cases y with
  | int j=>simp [KD.p2,PyData.eqv]
  | str j=>simp [KD.p2,PyData.eqv]
  | tn=>simp [KD.p2,PyData.eqv,PyData.eqvAll]
  | tc z q=>
   refine pL fun G0 hG0=>?_
   simp only [KI] at b
   obtain ⟨p',w',ws',rfl,ho',b1,b2⟩:=b
   refine hG0 ?_
   have e:=key (.tc z q) (w::ws) (w'::ws') (by simp only [KIs]; exact ⟨w,ws,rfl,a1,a2⟩) (by simp only [KIs]; exact ⟨w',ws',rfl,b1,b2⟩)
   rw [← e]
   simp only [KD.p2,PyData.eqv]
section
variable {prog:Program} {w:World} {E:Value→Shared→Prop}
theorem ki_eqBool {A:Around} {s:Shared} {x y:KD} {u v:Value} {Q:Bool→Shared→Prop} (hu:A.units + 8 < cLine) (a:KI s.heap x u) (b:KI s.heap y v) (gx:x.good) (gy:y.good) (h:Q (decide (x=y)) s):wpAny (model prog w) A (eqBool u v) Q E s:=by
 obtain ⟨as,ra⟩:=(ki_reads x).1 u a
 obtain ⟨bs,rb⟩:=(ki_reads y).1 v b
 have e:=(ki_eqv x).1 y u v a b
 have dx:=(kd_depth x).1
 have:=gx.1
 refine SeqAt.eqAt_reads _ _ A s u v as bs ra rb (kd_lay x gx.2).1 (kd_lay y gy.2).1 ?_ prog w E Q (by rw [e]; exact h)
 have m:=Nat.min_le_left x.p2.1.depth y.p2.1.depth
 omega
theorem ki_quiet:∀ (x:KD),(∀ (n:Nat) (A:Around) (s:Shared) (v:Value) (Q:Bool→Shared→Prop),KI s.heap x v→x.nest≤n→Q true s→wpAny (model prog w) A (eqIsQuiet n v) Q E s)∧
  (∀ (n:Nat) (A:Around) (s:Shared) (vs:List Value),KIs s.heap x vs→x.nest≤n + 1→∀ y∈vs,∀ (Q:Bool→Shared→Prop),Q true s→wpAny (model prog w) A (eqIsQuiet n y) Q E s):=by
 intro x
 have tup:∀ (n:Nat) (A:Around) (s:Shared) (a:Addr) (ys:List Value) (Q:Bool→Shared→Prop),s.heap.get? a=some (tupO ys)→
   (∀ y∈ys,∀ (Q:Bool→Shared→Prop),Q true s→wpAny (model prog w) A (eqIsQuiet n y) Q E s)→Q true s→wpAny (model prog w) A (eqIsQuiet (n + 1) (.ref a)) Q E s:=by
  intro n A s a ys Q ho hys h
  have hT:s.TypeIs (.ref a) "tuple":=⟨_,ho,rfl⟩
  unfold eqIsQuiet
  refine wpAny_bind (wpAny_specialOf hT F.slot_tuple_eq.lookup ?_)
  show wpAny _ _ (isInstance (.ref a) (.type "tuple") >>= _) _ _ s
  refine wpAny_bind (wpAny_isInstance hT isSubtype_tuple_tuple ?_)
  simp only [Bool.not_true,Bool.false_eq_true,if_false]
  refine wpAny_bind (wpAny_seqItems ho rfl ?_)
  refine wpAny_bind ?_
  show wpAny _ _ (forIn ys.toArray _ _) _ _ s
  rw [← Array.forIn_toList]
  refine wpAny_forIn_list _ (fun rest r s'=>r.1=none∧s'=s∧∀ y∈rest,∀ (Q:Bool→Shared→Prop),Q true s→wpAny (model prog w) A (eqIsQuiet n y) Q E s) _ ?_ ?_ _ _ ⟨rfl,rfl,hys⟩
  ·rintro v rest r s' ⟨hr,rfl,hall⟩
   refine wpAny_bind (hall v List.mem_cons_self _ ?_)
   simp only [Bool.not_true,Bool.false_eq_true,if_false]
   exact wpAny_pure ⟨rfl,rfl,fun u hu'=>hall u (List.mem_cons_of_mem _ hu')⟩
  ·rintro ⟨r1,r2⟩ s' ⟨hr,rfl,_⟩
   simp only at hr
   subst hr
   exact wpAny_pure h
 induction x with
 | int i=>
  refine ⟨fun n A s v Q k hn h=>?_,fun n A s vs k=>by simp only [KIs] at k⟩
  simp only [KI] at k; obtain ⟨t,rfl⟩:=k
  rw [eqIsQuiet_byValue _ rfl]; exact wpAny_pure h
 | str i=>
  refine ⟨fun n A s v Q k hn h=>?_,fun n A s vs k=>by simp only [KIs] at k⟩
  simp only [KI] at k; obtain ⟨t,rfl⟩:=k
  rw [eqIsQuiet_byValue _ rfl]; exact wpAny_pure h
 | tn=>
  refine ⟨fun n A s v Q k hn h=>?_,fun n A s vs k hn y hy=>?_⟩
  ·simp only [KI] at k; obtain ⟨a,rfl,ho⟩:=k
   obtain ⟨n,rfl⟩:∃ k,n=k + 1:=⟨n - 1,by simp only [KD.nest] at hn; omega⟩
   exact tup n A s a [] Q ho (fun y hy=>nomatch hy) h
  ·simp only [KIs] at k; subst k; cases hy
 | tc x r ix ir=>
  have key:∀ (n:Nat) (A:Around) (s:Shared) (vs:List Value),KIs s.heap (.tc x r) vs→(KD.tc x r).nest≤n + 1→∀ y∈vs,∀ (Q:Bool→Shared→Prop),Q true s→wpAny (model prog w) A (eqIsQuiet n y) Q E s:=by
   intro n A s vs k hn y hy Q h
   refine pL fun G0 hG0=>?_
   simp only [KIs] at k
   obtain ⟨u,us,rfl,k1,k2⟩:=k
   refine hG0 ?_
   simp only [KD.nest] at hn
   rcases List.mem_cons.mp hy with rfl | hy
   ·exact ix.1 n A s y Q k1 (by omega) h
   ·exact ir.2 n A s us k2 (by omega) y hy Q h
  refine ⟨fun n A s v Q k hn h=>?_,key⟩
  simp only [KI] at k
  obtain ⟨a,y,ys,rfl,ho,k1,k2⟩:=k
  obtain ⟨n,rfl⟩:∃ k,n=k + 1:=⟨n - 1,by simp only [KD.nest] at hn; omega⟩
  exact tup n A s a (y::ys) Q ho (key n A s (y::ys) (by simp only [KIs]; exact ⟨y,ys,rfl,k1,k2⟩) hn) h
end
theorem sameBut_tup {h h':Heap} {d:Addr} {o:Obj} {es:Array DictEntry} {ep:Nat} (ho:h.get? d=some o) (hd:o.data=.dict es ep) (hs:Heap.SameBut d h h'):∀ b ys,h.get? b=some (tupO ys)→h'.get? b=some (tupO ys):=by
 intro b ys e
 refine (hs.2 b ?_).trans e
 rintro rfl
 rw [ho] at e
 (obtain rfl:=Option.some.inj e)
 cases hd
noncomputable def kdKind (prog:Program) (w:World):HeapKind prog w KD where
 is h k a:=KI h k (.ref a)∧k.good
 hash:=KD.hash1 w
 draws k:=k.dr.1
 room A:=A.units + 20 < cLine
 inj a b:=(ki_inj _).1 _ _ a.1 b.1
 keeps a ho hd hs:=⟨(ki_keeps (sameBut_tup ho hd hs) _).1 _ a.1,a.2⟩
 pyHash hu a q:=(ki_hash _).1 _ _ _ _ a.1 (by have:=a.2.1; omega) q
 eqBool hu a b q:=ki_eqBool (by omega) a.1 b.1 a.2 b.2 q
 quiet a q:=(ki_quiet _).1 _ _ _ _ _ a.1 (by have:=a.2.1; omega) q
end Mine
namespace Mine
variable {P:Pm} {C:Cx} {W:Wd} {h h':Hp} {env:List V} {s:Shared} {d n:Nat}
theorem vnest_tc (x r:V):vnest (.tc x r)=max (vnest x + 1) (vnest r):=by
 show (match Nat.ble (Nat.succ (vnest x)) (vnest r) with | true=>vnest r | false=>Nat.succ (vnest x))=_
 rw [ble_eq]
 by_cases q:Nat.succ (vnest x)≤vnest r
 ·rw [decide_eq_true q]; show vnest r=_; omega
 ·rw [decide_eq_false q]; show Nat.succ (vnest x)=_; omega
theorem ki_of {h₀ hp:Heap} {L:Addr} (N:News h₀ L hp W.ns):∀ x:V,
  (∀ c v,kdOf P x=some c→RV P W n x v→KI hp c v∧pd P x=some c.p2.1)∧(∀ c vs,kdOf P x=some c→RT P W n x vs→KIs hp c vs∧pds P x=some c.p2.2):=by
 intro x
 induction x with
 | int i=>exact ⟨fun c v e r=>by (obtain rfl:=Option.some.inj e); simp only [RV] at r; exact ⟨by simpa only [KI] using r,rfl⟩,fun c v e r=>by simp only [RT] at r⟩
 | kd j=>exact ⟨fun c v e r=>by (obtain rfl:=Option.some.inj e); simp only [RV] at r; exact ⟨by simpa only [KI] using r,rfl⟩,fun c v e r=>by simp only [RT] at r⟩
 | str k=>exact ⟨fun c v e r=>by (obtain rfl:=Option.some.inj e); simp only [RV] at r; exact ⟨by simpa only [KI] using r,rfl⟩,fun c v e r=>by simp only [RT] at r⟩
 | tn=>
  refine ⟨fun c v e r=>?_,fun c v e r=>?_⟩
  ·(obtain rfl:=Option.some.inj e); simp only [RV] at r; obtain ⟨b,rfl,m⟩:=r; exact ⟨by simp only [KI]; exact ⟨b,rfl,N.get m⟩,rfl⟩
  ·(obtain rfl:=Option.some.inj e); simp only [RT] at r; exact ⟨by simpa only [KIs] using r,rfl⟩
 | tc x r ix ir=>
  have key:∀ c vs,kdOf P (.tc x r)=some c→RT P W n (.tc x r) vs→KIs hp c vs∧pds P (.tc x r)=some c.p2.2:=by
   intro c vs e q
   refine pL fun G0 hG0=>?_
   simp only [kdOf] at e
   obtain ⟨a,ha,e⟩:=Option.bind_eq_some_iff.mp e
   obtain ⟨b,hb,rfl⟩:=Option.map_eq_some_iff.mp e
   simp only [RT] at q
   obtain ⟨y,zs,rfl,q1,q2⟩:=q
   obtain ⟨i1,i2⟩:=ix.1 a y ha q1
   obtain ⟨j1,j2⟩:=ir.2 b zs hb q2
   refine hG0 ?_
   refine ⟨by simp only [KIs]; exact ⟨y,zs,rfl,i1,j1⟩,?_⟩
   rw [pds_tc,i2,j2]; rfl
  refine ⟨fun c v e q=>?_,key⟩
  refine pL fun G0 hG0=>?_
  simp only [RV] at q
  obtain ⟨b,y,ys,rfl,m,q1,q2⟩:=q
  obtain ⟨k1,k2⟩:=key c (y::ys) e (by simp only [RT]; exact ⟨y,ys,rfl,q1,q2⟩)
  simp only [kdOf] at e
  obtain ⟨a,ha,e⟩:=Option.bind_eq_some_iff.mp e
  obtain ⟨b',hb,rfl⟩:=Option.map_eq_some_iff.mp e
  simp only [KIs] at k1
  obtain ⟨y',ys',e',k3,k4⟩:=k1
  cases e'
  refine hG0 ?_
  exact ⟨by simp only [KI]; exact ⟨b,y,ys,rfl,N.get m,k3,k4⟩,pd_of_pds k2⟩
 | _=>exact ⟨fun c v e=>(nomatch e),fun c v e=>(nomatch e)⟩
theorem kdOf_ex (ok:POk P):∀ x:V,vnest x≤6→∃ c,kdOf P x=some c∧c.nest≤vnest x∧c.txt=true:=by
 intro x
 induction x with
 | int i=>intro _; exact ⟨_,rfl,Nat.zero_le _,rfl⟩
 | kd i=>intro _; exact ⟨_,rfl,Nat.zero_le _,rfl⟩
 | str i=>intro _; exact ⟨_,rfl,Nat.zero_le _,ok.nmk i⟩
 | tn=>intro _; exact ⟨_,rfl,Nat.le_refl _,rfl⟩
 | tc x r ix ir=>
  intro q
  refine pL fun G0 hG0=>?_
  rw [vnest_tc] at q
  obtain ⟨a,a1,a2,a3⟩:=ix (by omega)
  obtain ⟨b,b1,b2,b3⟩:=ir (by omega)
  refine hG0 ?_
  refine ⟨.tc a b,by simp only [kdOf]; rw [a1,b1]; rfl,?_,by simp only [KD.txt,a3,b3]; rfl⟩
  rw [vnest_tc]; simp only [KD.nest]; omega
 | _=>intro q; exact absurd q (by first | (show ¬ ((100:Nat)≤6); decide))
theorem vkey_nest {k:V} (e:vkey k=true):vnest k≤6:=by
 induction k using V.casesOn with
 | tc x r=>have e':Nat.ble (vnest (.tc x r)) 6=true:=e; rw [ble_eq,decide_eq_true_iff] at e'; exact e'
 | int _=>exact Nat.zero_le _
 | kd _=>exact Nat.zero_le _
 | str _=>exact Nat.zero_le _
 | tn=>show (1:Nat)≤6; decide
 | _=>exact bX e
noncomputable def KD.sort:KD→Nat
 | .int _=>1
 | .str _=>2
 | .tn=>3
 | .tc _ _=>3
theorem sort_of {k:V} {c:KD} (e:kdOf P k=some c):vsort k=c.sort:=by
 induction k using V.casesOn with
 | tc x r=>
  simp only [kdOf] at e
  obtain ⟨a,ha,e⟩:=Option.bind_eq_some_iff.mp e
  obtain ⟨b,hb,rfl⟩:=Option.map_eq_some_iff.mp e
  rfl
 | _=>cases e <;> rfl
structure KeyAt (P:Pm) (W:Wd) (n:Nat) (hp:Heap) (k:V) (c:KD) (v:Value):Prop where
 kd:kdOf P k=some c
 rv:RV P W n k v
 ki:KI hp c v
 pd:pd P k=some c.p2.1
 good:c.good
theorem keyAt (ok:POk P) {h₀ hp:Heap} {L:Addr} (N:News h₀ L hp W.ns) {k:V} {v:Value} (r:RV P W n k v) (e:vkey k=true):∃ c,KeyAt P W n hp k c v:=by
 have q:=vkey_nest e
 obtain ⟨c,c1,c2,c3⟩:=kdOf_ex ok k q
 obtain ⟨a,b⟩:=(ki_of N k).1 c v c1 r
 exact ⟨c,c1,r,a,b,by omega,c3⟩
theorem onB_some {α:Type} {b:Bool} {o:Option α} {x:α} (e:onB b o=some x):b=true∧o=some x:=by
 induction b using Bool.casesOn with
 | true=>exact ⟨rfl,e⟩
 | false=>exact oX e
theorem veqK (ok:POk P) {h₀ hp:Heap} {L:Addr} (N:News h₀ L hp W.ns) {p k:V} {c' c:KD} {u v:Value} (K:KeyAt P W n hp k c v) (e:kdOf P p=some c') (r:RV P W n p u) {b:Bool} (q:veq p k=some b):b=decide (c'=c):=by
 obtain ⟨a1,a2⟩:=(ki_of N p).1 c' u e r
 rw [(veq_eq ok p k b q).1 _ _ a2 K.pd]
 exact (ki_eqv c').1 c u v a1 K.ki
theorem findGo_spec (ok:POk P) {h₀ hp:Heap} {L:Addr} (N:News h₀ L hp W.ns) {k:V} {c:KD} {kv:Value} (K:KeyAt P W n hp k c kv) {es:List (V×V)} {xs:List Row3} (R:RD P W n es xs) {r:Option V} (e:findGo k es=some r) :
  (∀ v,r=some v→∃ (j:Nat) (key y:Value),xs[j]?=some (c,key,y)∧RV P W n v y)∧(r=none→∀ q∈xs,q.1≠c):=by
 induction R with
 | nil=>(obtain rfl:=Option.some.inj e); exact ⟨fun v q=>(nomatch q),fun _ q m=>(nomatch m)⟩
 | @cons p x c' key v es ds e1 r1 r2 _ ih=>
  have e':(match veq p k with | some true=>some (some x) | some false=>findGo k es | none=>none)=some r:=e
  split at e'
  ·rename_i q
   (obtain rfl:=Option.some.inj e')
   have z:=of_decide_eq_true (veqK ok N K e1 r1 q).symm
   subst z
   exact ⟨fun v q=>by (obtain rfl:=Option.some.inj q); exact ⟨0,key,_,rfl,r2⟩,fun q=>(nomatch q)⟩
  ·rename_i q
   have z:=of_decide_eq_false (veqK ok N K e1 r1 q).symm
   obtain ⟨i1,i2⟩:=ih e'
   refine ⟨fun v q=>?_,fun q m hm=>?_⟩
   ·obtain ⟨j,a,b,h1,h2⟩:=i1 v q; exact ⟨j + 1,a,b,h1,h2⟩
   ·rcases List.mem_cons.mp hm with rfl | hm
    ·exact z
    ·exact i2 q m hm
  ·exact oX e'
noncomputable def stK (xs:List Row3) (c:KD) (kv y:Value):List Row3:=if xs.any (fun r=>decide (r.1=c)) then xs.map (fun r=>if r.1=c then (r.1,r.2.1,y) else r) else xs ++ [(c,kv,y)]
theorem map_none {xs:List Row3} {c:KD} {y:Value} (hn:c∉xs.map (·.1)):xs.map (fun r=>if r.1=c then (r.1,r.2.1,y) else r)=xs:=by
 induction xs with
 | nil=>rfl
 | cons r xs ih=>
  rw [List.map_cons] at hn ⊢
  rw [if_neg (fun e=>hn (by rw [← e]; exact .head _)),ih fun m=>hn (.tail _ m)]
theorem any_none {xs:List Row3} {c:KD} (hn:c∉xs.map (·.1)):xs.any (fun r=>decide (r.1=c))=false:=by
 rw [List.any_eq_false]
 intro r hr e
 exact hn (List.mem_map.mpr ⟨r,hr,of_decide_eq_true e⟩)
theorem any_some' {xs:List Row3} {c:KD} (hm:xs.any (fun r=>decide (r.1=c))=true):c∈xs.map (·.1):=by
 obtain ⟨r,hr,e⟩:=List.any_eq_true.mp hm
 exact List.mem_map.mpr ⟨r,hr,of_decide_eq_true e⟩
theorem dputGo_spec (ok:POk P) {h₀ hp:Heap} {L:Addr} (N:News h₀ L hp W.ns) {k:V} {c:KD} {kv:Value} (K:KeyAt P W n hp k c kv) {v:V} {y:Value} (rv:RV P W n v y) {es:List (V×V)} {xs:List Row3} (R:RD P W n es xs)
  (hn:(xs.map (·.1)).Nodup) {es':List (V×V)} (e:dputGo k v es=some es'):RD P W n es' (stK xs c kv y):=by
 induction R generalizing es' with
 | nil=>(obtain rfl:=Option.some.inj e); exact .cons K.kd K.rv rv .nil
 | @cons p x c' key v' es ds e1 r1 r2 R' ih=>
  have e':(match veq p k with | some true=>some ((p,v)::es) | some false=>(match dputGo k v es with | some r'=>some ((p,x)::r') | none=>none) | none=>none)=some es':=e
  rw [List.map_cons,List.nodup_cons] at hn
  split at e'
  ·rename_i q
   (obtain rfl:=Option.some.inj e')
   have z:=of_decide_eq_true (veqK ok N K e1 r1 q).symm
   subst z
   have t:stK ((c',key,v')::ds) c' kv y=(c',key,y)::ds:=by
    unfold stK
    rw [if_pos (by simp),List.map_cons,if_pos rfl,map_none hn.1]
   rw [t]
   exact .cons e1 r1 rv R'
  ·rename_i q
   have z:=of_decide_eq_false (veqK ok N K e1 r1 q).symm
   split at e'
   ·rename_i r' hr
    (obtain rfl:=Option.some.inj e')
    have t:stK ((c',key,v')::ds) c kv y=(c',key,v')::stK ds c kv y:=by
     unfold stK
     by_cases w:ds.any (fun r=>decide (r.1=c))=true
     ·rw [if_pos w,if_pos (by rw [List.any_cons,w]; simp),List.map_cons,if_neg z]
     ·rw [if_neg w,if_neg (by rw [List.any_cons]; simp only [Bool.not_eq_true] at w; rw [w]; simp [z])]; rfl
    rw [t]
    exact .cons e1 r1 r2 (ih hn.2 hr)
   ·exact oX e'
  ·exact oX e'
theorem stK_keys (xs:List Row3) (c:KD) (kv y:Value):(stK xs c kv y).map (·.1)=if c∈xs.map (·.1) then xs.map (·.1) else xs.map (·.1) ++ [c]:=by
 unfold stK
 by_cases w:xs.any (fun r=>decide (r.1=c))=true
 ·rw [if_pos w,if_pos (any_some' w),List.map_map]
  refine List.map_congr_left fun r _=>?_
  show (if r.1=c then (r.1,r.2.1,y) else r).1=r.1
  split <;> rfl
 ·rw [if_neg w,if_neg (fun m=>w ?_),List.map_append]; rfl
  obtain ⟨r,hr,e⟩:=List.mem_map.mp m
  exact List.any_eq_true.mpr ⟨r,hr,decide_eq_true e⟩
end Mine
namespace Mine
variable {P:Pm} {W:Wd} {n:Nat}
noncomputable def prj (xs:List Row3):List (KD×Value):=xs.map fun r=>(r.1,r.2.2)
theorem prj_stK (xs:List Row3) (c:KD) (kv y:Value):prj (stK xs c kv y)=stored (prj xs) c y:=by
 have ha:(prj xs).any (fun kv=>decide (kv.1=c))=xs.any (fun r=>decide (r.1=c)):=by unfold prj; rw [List.any_map]; rfl
 unfold stK stored
 rw [ha]
 by_cases w:xs.any (fun r=>decide (r.1=c))=true
 ·rw [if_pos w,if_pos w]
  unfold prj
  rw [List.map_map,List.map_map]
  refine List.map_congr_left fun r _=>?_
  show ((if r.1=c then (r.1,r.2.1,y) else r).1,(if r.1=c then (r.1,r.2.1,y) else r).2.2)=if r.1=c then (r.1,y) else (r.1,r.2.2)
  split <;> rfl
 ·rw [if_neg w,if_neg w]; simp [prj]
theorem valueAt_some {l:List (KD×Value)} (hn:(l.map (·.1)).Nodup) {c:KD} {y:Value} (m:(c,y)∈l):valueAt l c=some y:=by
 induction l with
 | nil=>cases m
 | cons p l ih=>
  rw [List.map_cons,List.nodup_cons] at hn
  unfold valueAt
  rw [List.find?_cons]
  rcases List.mem_cons.mp m with e | m
  ·subst e; simp
  ·have:p.1≠c:=fun e=>hn.1 (e▸List.mem_map.mpr ⟨_,m,rfl⟩)
   rw [show decide (p.1=c)=false from decide_eq_false this]
   exact ih hn.2 m
theorem valueAt_none {l:List (KD×Value)} {c:KD} (m:∀ q∈l,q.1≠c):valueAt l c=none:=by
 unfold valueAt
 rw [List.find?_eq_none.mpr fun q hq e=>m q hq (of_decide_eq_true e)]
 rfl
theorem nodup_of_map {α β:Type} {f:α→β} {l:List α} (h:(l.map f).Nodup):l.Nodup:=by
 induction l with
 | nil=>exact .nil
 | cons a l ih=>
  rw [List.map_cons,List.nodup_cons] at h
  exact List.nodup_cons.mpr ⟨fun m=>h.1 (List.mem_map.mpr ⟨a,m,rfl⟩),ih h.2⟩
structure Emb (P:Pm) (K:Type) [DecidableEq K] (knd:KeyKind P.prog P.w K) where
 f:K→KD
 inj:∀ a b,f a=f b→a=b
 is:∀ hp c v,KI hp (f c) v↔knd.is c v=true
 hash:∀ c,(f c).hash P=knd.hash c
noncomputable def embI (P:Pm):Emb P Int (intKind P.prog P.w) where
 f:=.int
 inj a b e:=by cases e; rfl
 is hp c v:=by
  simp only [KI]
  constructor
  ·rintro ⟨t,rfl⟩; simp [intKind,Value.isInt]
  ·exact Value.isInt_shape
 hash c:=hashW_int P.w.params c
noncomputable def embS (P:Pm):Emb P Str (PySem.strKind P.prog P.w) where
 f:=.str
 inj a b e:=by cases e; rfl
 is hp c v:=by
  simp only [KI]
  constructor
  ·rintro ⟨t,rfl⟩; simp [PySem.strKind,Value.isStrOf]
  ·exact Value.isStrOf_shape
 hash c:=rfl
section
variable {K:Type} [DecidableEq K] {knd:KeyKind P.prog P.w K} (e:Emb P K knd)
noncomputable def Emb.g (p:K×Value):KD×Value:=(e.f p.1,p.2)
theorem Emb.valueAt (kvs:List (K×Value)) (c:K):PySem.valueAt kvs c=PySem.valueAt (kvs.map e.g) (e.f c):=by
 unfold PySem.valueAt
 rw [List.find?_map,Option.map_map]
 have:((fun kv:KD×Value=>decide (kv.1=e.f c)) ∘ e.g)=fun kv=>decide (kv.1=c):=funext fun kv=>by
  show decide (e.f kv.1=e.f c)=_
  by_cases q:kv.1=c
  ·simp [q]
  ·rw [decide_eq_false q,decide_eq_false fun z=>q (e.inj _ _ z)]
 rw [this]; rfl
theorem Emb.stored (kvs:List (K×Value)) (c:K) (y:Value):(PySem.stored kvs c y).map e.g=PySem.stored (kvs.map e.g) (e.f c) y:=by
 have hd:∀ kv:K×Value,decide ((e.g kv).1=e.f c)=decide (kv.1=c):=fun kv=>by
  show decide (e.f kv.1=e.f c)=_
  by_cases q:kv.1=c
  ·simp [q]
  ·rw [decide_eq_false q,decide_eq_false fun z=>q (e.inj _ _ z)]
 unfold PySem.stored
 rw [List.any_map,show ((fun kv:KD×Value=>decide (kv.1=e.f c)) ∘ e.g)=fun kv=>decide (kv.1=c) from funext hd]
 by_cases w:kvs.any (fun kv=>decide (kv.1=c))=true
 ·rw [if_pos w,if_pos w,List.map_map,List.map_map]
  refine List.map_congr_left fun kv _=>?_
  show e.g (if kv.1=c then (kv.1,y) else kv)=if e.f kv.1=e.f c then (e.f kv.1,y) else e.g kv
  by_cases q:kv.1=c
  ·rw [if_pos q,if_pos (by rw [q])]; rfl
  ·rw [if_neg q,if_neg fun z=>q (e.inj _ _ z)]
 ·rw [if_neg w,if_neg w,List.map_append]; rfl
theorem Emb.to {h₀ hp:Heap} {L:Addr} (N:News h₀ L hp W.ns) {es:List (V×V)} {xs:List Row3} (R:RD P W n es xs) (hk:∀ q∈xs,∃ c,q.1=e.f c) :
  ∃ kvs:List (K×Value),kvs.map e.g=prj xs∧Pairs knd (xs.map (ent P)) kvs∧∀ x∈xs.map (ent P),∃ k,knd.is k x.key=true∧x.hash=knd.hash k:=by
 induction R with
 | nil=>exact ⟨[],rfl,.nil,fun x m=>(nomatch m)⟩
 | @cons p x c' key v es ds e1 r1 r2 _ ih=>
  obtain ⟨kvs,a1,a2,a3⟩:=ih fun q m=>hk q (.tail _ m)
  obtain ⟨c,hc⟩:=hk _ (.head _)
  have hc:c'=e.f c:=hc
  subst hc
  have z:knd.is c key=true:=(e.is hp c key).mp ((ki_of N p).1 _ key e1 r1).1
  refine ⟨(c,v)::kvs,by rw [List.map_cons,a1]; rfl,.cons z rfl a2,fun x m=>?_⟩
  rcases List.mem_cons.mp m with rfl | m
  ·exact ⟨c,z,e.hash c⟩
  ·exact a3 x m
theorem Emb.dictOf {h₀ hp:Heap} {L:Addr} (N:News h₀ L hp W.ns) {es:List (V×V)} {xs:List Row3} {b:Addr} {ep:Nat} (m:hp.get? b=some (PySem.W.dictOf (xs.map (ent P)) ep)) (R:RD P W n es xs) (hn:(xs.map (·.1)).Nodup) (hk:∀ q∈xs,∃ c,q.1=e.f c) :
  ∃ kvs:List (K×Value),kvs.map e.g=prj xs∧hp.DictOf knd b kvs:=by
 obtain ⟨kvs,a1,a2,a3⟩:=e.to N R hk
 refine ⟨kvs,a1,_,_,ep,m,⟨rfl,rfl,rfl⟩,rfl,fun x hx=>a3 x (by simpa using hx),by simpa using a2,?_⟩
 have q:(kvs.map e.g).map (·.1)=xs.map (·.1):=by rw [a1]; unfold prj; rw [List.map_map]; rfl
 have q':(kvs.map (·.1)).map e.f=xs.map (·.1):=by rw [← q,List.map_map,List.map_map]; rfl
 rw [← q'] at hn
 exact nodup_of_map hn
theorem Emb.back {hp:Heap} {W':Wd} {n':Nat} (tok:∀ (k:V) (c:K) (key:Value),kdOf P k=some (e.f c)→knd.is c key=true→RV P W' n' k key) {es:List (V×V)}:∀ {xs:List Row3},RD P W' n' es xs→∀ {l:List DictEntry} {kvs:List (K×Value)},
  kvs.map e.g=prj xs→Pairs knd l kvs→(∀ x∈l,∃ k,knd.is k x.key=true∧x.hash=knd.hash k)→∃ xs':List Row3,l=xs'.map (ent P)∧xs'.map (·.1)=xs.map (·.1)∧RD P W' n' es xs':=by
 intro xs R
 induction R with
 | nil=>
  intro l kvs a p k
  induction kvs using List.casesOn with
  | nil=>cases p; exact ⟨[],rfl,rfl,.nil⟩
  | cons q r=>exact lX a
 | @cons p x c' key v es ds e1 r1 r2 _ ih=>
  intro l kvs a pr k
  induction kvs using List.casesOn with
  | nil=>exact lX a
  | cons q kvs=>
   cases pr with
   | @cons x' _ l' _ h1 h2 h3=>
    have a':e.g q=(c',v)∧kvs.map e.g=prj ds:=by
     have:e.g q::kvs.map e.g=(c',v)::prj ds:=a
     exact ⟨(List.cons.inj this).1,(List.cons.inj this).2⟩
    obtain ⟨xs',b1,b2,b3⟩:=ih a'.2 h3 fun y m=>k y (.tail _ m)
    have hc:e.f q.1=c':=congrArg (·.1) a'.1
    have hv:q.2=v:=congrArg (·.2) a'.1
    subst hc hv
    obtain ⟨k',k1,k2⟩:=k x' (.head _)
    have:k'=q.1:=knd.inj _ _ _ k1 h1
    subst this
    refine ⟨(e.f q.1,x'.key,q.2)::xs',?_,by rw [List.map_cons,List.map_cons,b2],.cons e1 (tok p q.1 x'.key e1 h1) r2 b3⟩
    rw [List.map_cons,← b1]
    congr 1
    obtain ⟨xh,xk,xv⟩:=x'
    have h2:xv=q.2:=h2
    have k2:xh=knd.hash q.1:=k2
    subst h2 k2
    show _=(⟨(e.f q.1).hash P,xk,q.2⟩:DictEntry)
    rw [e.hash]
end
theorem tokI {n':Nat} {W':Wd} (k:V) (c:Int) (key:Value) (e:kdOf P k=some ((embI P).f c)) (h:(intKind P.prog P.w).is c key=true):RV P W' n' k key:=by
 obtain ⟨t,rfl⟩:=Value.isInt_shape h
 induction k using V.casesOn with
 | int i=>have e:some (KD.int i)=some (.int c):=e; cases e; simp only [RV]; exact ⟨t,rfl⟩
 | kd j=>have e:some (KD.int (P.ka j))=some (.int c):=e; cases e; simp only [RV]; exact ⟨t,rfl⟩
 | tc x r=>
  simp only [kdOf] at e
  obtain ⟨a,ha,e⟩:=Option.bind_eq_some_iff.mp e
  obtain ⟨b,hb,e⟩:=Option.map_eq_some_iff.mp e
  cases e
 | _=>cases e
theorem tokS {n':Nat} {W':Wd} (k:V) (c:Str) (key:Value) (e:kdOf P k=some ((embS P).f c)) (h:(PySem.strKind P.prog P.w).is c key=true):RV P W' n' k key:=by
 obtain ⟨t,rfl⟩:=Value.isStrOf_shape h
 induction k using V.casesOn with
 | str i=>have e:some (KD.str (P.nm i))=some (.str c):=e; cases e; simp only [RV]; exact ⟨t,rfl⟩
 | tc x r=>
  simp only [kdOf] at e
  obtain ⟨a,ha,e⟩:=Option.bind_eq_some_iff.mp e
  obtain ⟨b,hb,e⟩:=Option.map_eq_some_iff.mp e
  cases e
 | _=>cases e
theorem isI_sort:∀ {k:KD},k.isI=true→k.sort=1
 | .int _,_=>rfl
theorem isS_sort:∀ {k:KD},k.isS=true→k.sort=2
 | .str _,_=>rfl
theorem isT_sort:∀ {k:KD},k.isT=true→k.sort=3
 | .tn,_=>rfl
 | .tc _ _,_=>rfl
theorem sort_I:∀ {k:KD},k.sort=1→∃ i,k=.int i
 | .int i,_=>⟨i,rfl⟩
theorem sort_S:∀ {k:KD},k.sort=2→∃ i,k=.str i
 | .str i,_=>⟨i,rfl⟩
theorem sort_T:∀ {k:KD},k.sort=3→k.isT=true
 | .tn,_=>rfl
 | .tc _ _,_=>rfl
theorem sort_all {es:List (V×V)} {xs:List Row3} (D:DOk P W n es xs) {k:V} {c:KD} (e:kdOf P k=some c) (hd:headOk (vsort k) es=true):∀ q∈xs,q.1.sort=c.sort:=by
 obtain ⟨R,_,U,_,_⟩:=D
 cases R with
 | nil=>exact fun q m=>(nomatch m)
 | @cons p x c' key v es ds e1 r1 r2 R'=>
  have hd':Nat.beq (vsort p) (vsort k)=true:=hd
  rw [beqD,decide_eq_true_iff,sort_of e1,sort_of e] at hd'
  intro q m
  rw [← hd']
  have mq:q.1∈(((c',key,v):Row3)::ds).map (·.1):=List.mem_map.mpr ⟨q,m,rfl⟩
  have mc:c'∈(((c',key,v):Row3)::ds).map (·.1):=.head _
  rcases U with u | u | u
  ·rw [isI_sort (u _ mq),isI_sort (u _ mc)]
  ·rw [isS_sort (u _ mq),isS_sort (u _ mc)]
  ·rw [isT_sort (u _ mq),isT_sort (u _ mc)]
end Mine
namespace Mine
variable {P:Pm} {C:Cx} {W:Wd} {h h':Hp} {env:List V} {s:Shared} {n:Nat}
theorem notIn_of_in {M:Model} {A:Around} {x y:Value} {r:Bool} {s s':Shared} (k:∀ (Q:Value→Shared→Prop) (E:Value→Shared→Prop),Q (.bool r) s'→wpAny M A (compareOp .In x y) Q E s) {Q:Value→Shared→Prop} {E:Value→Shared→Prop} (q:Q (.bool (!r)) s') :
  wpAny M A (compareOp .NotIn x y) Q E s:=by
 have z:wpAny M A (do return Value.bool (← contains y x)) (fun v s₁=>∀ b:Bool,v=Value.bool b→Q (Value.bool (!b)) s₁) E s:=k (fun v s₁=>∀ b:Bool,v=Value.bool b→Q (Value.bool (!b)) s₁) E fun b e=>by cases e; exact q
 show wpAny M A (do return Value.bool (!(← contains y x))) Q E s
 intro Γ p hΓ
 have z':=z Γ p hΓ
 rw [Sem.wp_bind'] at z' ⊢
 exact Sem.wp_mono M Γ _ (fun b p' s₁ w=>w b rfl) (fun _ _ _ w=>w) _ _ z'
noncomputable def back3 (t:KD×Addr×Value):Row3:=(t.1,.ref t.2.1,t.2.2)
theorem tupRows {h₀ hp:Heap} {L:Addr} (N:News h₀ L hp W.ns) {es:List (V×V)} {xs:List Row3} (R:RD P W n es xs) (hs:∀ q∈xs,q.1.sort=3) (hg:∀ k∈xs.map (·.1),k.good) :
  ∃ ts:List (KD×Addr×Value),xs=ts.map back3∧∀ t∈ts,(kdKind P.prog P.w).is hp t.1 t.2.1:=by
 induction R with
 | nil=>exact ⟨[],rfl,fun t m=>(nomatch m)⟩
 | @cons p x c' key v es ds e1 r1 r2 _ ih=>
  obtain ⟨ts,rfl,a⟩:=ih (fun q m=>hs q (.tail _ m)) fun k m=>hg k (.tail _ m)
  have z:=sort_T (hs _ (.head _))
  have ki:=((ki_of N p).1 c' key e1 r1).1
  have kr:∃ a,key=.ref a:=by
   have z:c'.isT=true:=z
   cases c' with
   | tn=>simp only [KI] at ki; obtain ⟨b,e,_⟩:=ki; exact ⟨b,e⟩
   | tc u w=>simp only [KI] at ki; obtain ⟨b,_,_,e,_⟩:=ki; exact ⟨b,e⟩
   | int _=>exact bX z
   | str _=>exact bX z
  obtain ⟨a',rfl⟩:=kr
  refine ⟨(c',a',v)::ts,rfl,fun t m=>?_⟩
  rcases List.mem_cons.mp m with rfl | m
  ·exact ⟨ki,hg _ (.head _)⟩
  ·exact a t m
inductive View (P:Pm) (hp:Heap) (b:Addr) (xs:List Row3) (c:KD) (kv:Value):Prop
 | int (i:Int) (kvs:List (Int×Value)):c=.int i→kvs.map (embI P).g=prj xs→hp.DictOf (intKind P.prog P.w) b kvs→(intKind P.prog P.w).is i kv=true→View P hp b xs c kv
 | str (i:Str) (kvs:List (Str×Value)):c=.str i→kvs.map (embS P).g=prj xs→hp.DictOf (PySem.strKind P.prog P.w) b kvs→(PySem.strKind P.prog P.w).is i kv=true→View P hp b xs c kv
 | tup (a:Addr) (ts:List (KD×Addr×Value)):kv=.ref a→xs=ts.map back3→hp.DictOfH (kdKind P.prog P.w) b ts→(kdKind P.prog P.w).is hp c a→View P hp b xs c kv
theorem sort3 (c:KD):c.sort=1∨c.sort=2∨c.sort=3:=by cases c <;> simp [KD.sort]
theorem view {h₀ hp:Heap} {L:Addr} (N:News h₀ L hp W.ns) {es:List (V×V)} {xs:List Row3} {b:Addr} {ep:Nat} (m:hp.get? b=some (dictOf (xs.map (ent P)) ep)) (D:DOk P W n es xs) {k:V} {c:KD} {kv:Value} (K:KeyAt P W n hp k c kv) (hd:headOk (vsort k) es=true) :
  View P hp b xs c kv:=by
 have hs:=sort_all D K.kd hd
 rcases sort3 c with z | z | z
 ·obtain ⟨i,rfl⟩:=sort_I z
  obtain ⟨kvs,a1,a2⟩:=(embI P).dictOf N m D.rd D.nod fun q hq=>sort_I ((hs q hq).trans z)
  exact .int i kvs rfl a1 a2 (((embI P).is hp i kv).mp K.ki)
 ·obtain ⟨i,rfl⟩:=sort_S z
  obtain ⟨kvs,a1,a2⟩:=(embS P).dictOf N m D.rd D.nod fun q hq=>sort_S ((hs q hq).trans z)
  exact .str i kvs rfl a1 a2 (((embS P).is hp i kv).mp K.ki)
 ·obtain ⟨ts,a1,a2⟩:=tupRows N D.rd (fun q hq=>(hs q hq).trans z) D.good
  have kr:∃ a,kv=.ref a:=by
   have ki:=K.ki
   have z:=sort_T z
   cases c with
   | tn=>simp only [KI] at ki; obtain ⟨b,e,_⟩:=ki; exact ⟨b,e⟩
   | tc u w=>simp only [KI] at ki; obtain ⟨b,_,_,e,_⟩:=ki; exact ⟨b,e⟩
   | int _=>exact bX z
   | str _=>exact bX z
  obtain ⟨a,rfl⟩:=kr
  refine .tup a ts rfl a1 ⟨_,_,ep,m,⟨rfl,rfl,rfl⟩,rfl,?_,a2,?_⟩ ⟨K.ki,K.good⟩
  ·rw [a1,List.map_map]; rfl
  ·have:=D.nod
   rw [a1,List.map_map] at this
   exact this
theorem atKey_prj (ts:List (KD×Addr×Value)) (c:KD):(atKey ts c).map (·.2)=valueAt (prj (ts.map back3)) c:=by
 unfold atKey valueAt prj
 rw [List.map_map,List.find?_map,Option.map_map,Option.map_map]
 rfl
inductive ORV (P:Pm) (W:Wd) (n:Nat):Option V→Option Value→Prop
 | none:ORV P W n none none
 | some {v y}:RV P W n v y→ORV P W n (some v) (some y)
theorem find_val (ok:POk P) {h₀ hp:Heap} {L:Addr} (N:News h₀ L hp W.ns) {es:List (V×V)} {xs:List Row3} (D:DOk P W n es xs) {k:V} {c:KD} {kv:Value} (K:KeyAt P W n hp k c kv) {r:Option V} (e:findGo k es=some r):ORV P W n r (valueAt (prj xs) c):=by
 obtain ⟨a,b⟩:=findGo_spec ok N K D.rd e
 induction r using Option.casesOn with
 | none=>
  rw [valueAt_none fun q hq=>?_]; exact .none
  obtain ⟨r,hr,e⟩:=List.mem_map.mp hq
  rw [← e]; exact b rfl r hr
 | some v=>
  obtain ⟨j,key,y,h1,h2⟩:=a v rfl
  have hn:((prj xs).map (·.1)).Nodup:=by unfold prj; rw [List.map_map]; exact D.nod
  rw [valueAt_some hn (List.mem_map.mpr ⟨_,List.mem_of_getElem? h1,rfl⟩)]
  exact .some h2
theorem ORV.isSome {r:Option V} {o:Option Value} (x:ORV P W n r o):o.isSome=r.isSome:=by cases x <;> rfl
section
variable {A:Around} {E:Value→Shared→Prop} {xs:List Row3} {c:KD} {kv:Value} {b:Addr}
theorem dv_in {Q:Value→Shared→Prop} (Vw:View P s.heap b xs c kv) (lo:sysModules < b) (hu:A.units + 30 < cLine) (q:∀ t,Q (.bool (valueAt (prj xs) c).isSome) { s with toks:=t }):wpAny (Cx.M P) A (compareOp .In kv (.ref b)) Q E s:=by
 have lo':(b == sysModules)=false:=beq_eq_false_iff_ne.mpr (Nat.ne_of_gt lo)
 cases Vw with
 | int i kvs e1 e2 e3 e4=>subst e1; exact wpAny_in_of e4 lo' e3.mapOf (by rw [(embI P).valueAt,e2]; exact q _)
 | str i kvs e1 e2 e3 e4=>subst e1; exact wpAny_in_of e4 lo' e3.mapOf (by rw [(embS P).valueAt,e2]; exact q _)
 | tup a ts e1 e2 e3 e4=>
  subst e1 e2
  refine wpAny_in_heap (by show A.units + 1 + 20 < cLine; omega) e4 lo' e3 ?_
  have z:=q (s.toks + (kdKind P.prog P.w).draws c)
  rw [← atKey_prj,Option.isSome_map] at z
  exact z
theorem dv_notIn {Q:Value→Shared→Prop} (Vw:View P s.heap b xs c kv) (lo:sysModules < b) (hu:A.units + 30 < cLine) (q:∀ t,Q (.bool (!(valueAt (prj xs) c).isSome)) { s with toks:=t }):wpAny (Cx.M P) A (compareOp .NotIn kv (.ref b)) Q E s:=by
 have lo':(b == sysModules)=false:=beq_eq_false_iff_ne.mpr (Nat.ne_of_gt lo)
 cases Vw with
 | int i kvs e1 e2 e3 e4=>subst e1; exact wpAny_notIn_of e4 lo' e3.mapOf (by rw [(embI P).valueAt,e2]; exact q _)
 | str i kvs e1 e2 e3 e4=>subst e1; exact wpAny_notIn_of e4 lo' e3.mapOf (by rw [(embS P).valueAt,e2]; exact q _)
 | tup a ts e1 e2 e3 e4=>
  subst e1 e2
  refine notIn_of_in (r:=(valueAt (prj (ts.map back3)) c).isSome) (s':={ s with toks:=s.toks + (kdKind P.prog P.w).draws c }) (fun Q E q=>?_) (q _)
  refine wpAny_in_heap (by show A.units + 1 + 20 < cLine; omega) e4 lo' e3 ?_
  rw [← atKey_prj,Option.isSome_map] at q
  exact q
theorem dv_item {Q:Value→Shared→Prop} (Vw:View P s.heap b xs c kv) (hu:A.units + 30 < cLine) {y:Value} (hv:valueAt (prj xs) c=some y) (q:∀ t,Q y { s with toks:=t }):wpAny (Cx.M P) A (getItem (.ref b) kv) Q E s:=by
 cases Vw with
 | int i kvs e1 e2 e3 e4=>subst e1; exact wpAny_getItem_of e4 e3.mapOf (by rw [(embI P).valueAt,e2]; exact hv) (q _)
 | str i kvs e1 e2 e3 e4=>subst e1; exact wpAny_getItem_of e4 e3.mapOf (by rw [(embS P).valueAt,e2]; exact hv) (q _)
 | tup a ts e1 e2 e3 e4=>
  subst e1 e2
  rw [← atKey_prj] at hv
  obtain ⟨p,hp,rfl⟩:=Option.map_eq_some_iff.mp hv
  exact wpAny_getItem_heap (by show A.units + 1 + 20 < cLine; omega) e4 e3 hp (q _)
theorem dv_get {Q:Value→Shared→Prop} (Vw:View P s.heap b xs c kv) (lo:sysModules < b) (hu:A.units + 30 < cLine) {dflt:Value} (q:∀ t,Q ((valueAt (prj xs) c).getD dflt) { s with toks:=t }):wpAny (Cx.M P) A (call (.builtin "dict.get") [.ref b,kv,dflt]) Q E s:=by
 have lo':(b == sysModules)=false:=beq_eq_false_iff_ne.mpr (Nat.ne_of_gt lo)
 cases Vw with
 | int i kvs e1 e2 e3 e4=>
  subst e1
  exact call_meetsIn F.slot_dict_get e3.typeIs F.entry_dict_get (F.args_dict_get_3 _ _ _) (meets_dict_get_default _ b e4 lo' dflt) ⟨_,e3.mapOf,by rw [(embI P).valueAt,e2]; exact q _⟩
 | str i kvs e1 e2 e3 e4=>
  subst e1
  exact call_meetsIn F.slot_dict_get e3.typeIs F.entry_dict_get (F.args_dict_get_3 _ _ _) (meets_dict_get_default _ b e4 lo' dflt) ⟨_,e3.mapOf,by rw [(embS P).valueAt,e2]; exact q _⟩
 | tup a ts e1 e2 e3 e4=>
  subst e1 e2
  refine call_meetsIn F.slot_dict_get e3.typeIs F.entry_dict_get (F.args_dict_get_3 _ _ _) (meetsH_dict_get_default (kdKind P.prog P.w) b a lo' dflt) ⟨by show A.units + 1 + 20 < cLine; omega,c,ts,e4,e3,?_⟩
  rw [atKey_prj]
  exact q _
end
end Mine
namespace Mine
variable {P:Pm} {C:Cx} {W W':Wd} {h h':Hp} {env:List V} {s:Shared} {n:Nat}
theorem EnvR.mono {n':Nat} {cl:List (Str×Addr)} {names:List Str} {m:Str→Option Value} (L:Le W W' n n') (e:EnvR P W n cl names env m):EnvR P W' n' cl names env m:=
 fun i x v a b c=>let ⟨y,p,q⟩:=e i x v a b c; ⟨y,p.elim .inl fun ⟨c,o,u,w,z⟩=>.inr ⟨c,o,u,L.imm _ _ (.inr ⟨_,z⟩) w,z⟩,q.mono L⟩
theorem St.put (S:St P C W h env s) {i:Nat} {o o':Obj} {ob:O} {hp:Heap} (li:i < h.n) (hn:h.n≤16000000) (m:(W.si i,o)∈W.ns) (ht:¬ Imm o) (hs:Heap.SameBut (W.si i) s.heap hp) (ho':hp.get? (W.si i)=some o')
  (ho:RO P ⟨W.si,setRow (W.si i) o' W.ns⟩ h.n ob (W.si i)) (t:Nat) :
  St P C ⟨W.si,setRow (W.si i) o' W.ns⟩ (h.set i ob) env { s with heap:=hp,toks:=t }∧Ext W ⟨W.si,setRow (W.si i) o' W.ns⟩ h (h.set i ob):=by
 refine pL fun G0 hG0=>?_
 obtain ⟨R,X⟩:=S.rel.put li hn m ht ho
 obtain ⟨mm,F,e⟩:=S.fr
 refine hG0 ?_
 have z:=S.nw _ m
 refine ⟨⟨R,⟨mm,F.change hs z.2.1 z.2.2,e.mono X.L⟩,?_,S.gens,S.os⟩,X⟩
 intro p hp'
 obtain ⟨q,hq,e⟩:=List.mem_map.mp hp'
 by_cases w:q.1=W.si i
 ·rw [if_pos w] at e; subst e; exact ⟨ho',z.2.1,z.2.2⟩
 ·rw [if_neg w] at e; subst e
  have y:=S.nw q hq
  exact ⟨(hs.2 _ w).trans y.1,y.2.1,y.2.2⟩
theorem DOk.put (ok:POk P) {h₀ hp:Heap} {L:Addr} (N:News h₀ L hp W.ns) {es:List (V×V)} {xs:List Row3} (D:DOk P W n es xs) {k:V} {c:KD} {kv:Value} (K:KeyAt P W n hp k c kv) (hd:headOk (vsort k) es=true) {v:V} {y:Value} (rv:RV P W n v y) {es':List (V×V)}
  (e:dputGo k v es=some es') (hl:es.length < 1000):DOk P W n es' (stK xs c kv y):=by
 have R:=dputGo_spec ok N K rv D.rd D.nod e
 have hs:=sort_all D K.kd hd
 have kk:=stK_keys xs c kv y
 have len:∀ {a:List (V×V)} {b:List Row3},RD P W n a b→a.length=b.length:=by
  intro a b r
  induction r with
  | nil=>rfl
  | cons _ _ _ _ ih=>simp [ih]
 refine ⟨R,?_,?_,?_,?_⟩
 ·rw [kk]
  split
  ·exact D.nod
  ·rename_i q
   rw [List.nodup_append]
   refine ⟨D.nod,by simp,fun a ha b hb=>?_⟩
   simp only [List.mem_singleton] at hb
   subst hb
   exact fun e=>q (e▸ha)
 ·rw [kk]
  have one:Uni [c]:=by
   cases c with
   | int _=>exact .inl (by simp [KD.isI])
   | str _=>exact .inr (.inl (by simp [KD.isS]))
   | tn=>exact .inr (.inr (by simp [KD.isT]))
   | tc _ _=>exact .inr (.inr (by simp [KD.isT]))
  have all:∀ q∈xs.map (·.1) ++ [c],q.sort=c.sort:=by
   intro q hq
   rcases List.mem_append.mp hq with hq | hq
   ·obtain ⟨r,hr,rfl⟩:=List.mem_map.mp hq; exact hs r hr
   ·simp only [List.mem_singleton] at hq; rw [hq]
  have un:Uni (xs.map (·.1) ++ [c]):=by
   rcases sort3 c with z | z | z
   ·exact .inl fun q hq=>by obtain ⟨i,e⟩:=sort_I ((all q hq).trans z); rw [e]; rfl
   ·exact .inr (.inl fun q hq=>by obtain ⟨i,e⟩:=sort_S ((all q hq).trans z); rw [e]; rfl)
   ·exact .inr (.inr fun q hq=>sort_T ((all q hq).trans z))
  split
  ·exact D.uni
  ·exact un
 ·have l1:=len D.rd
  unfold stK
  split
  ·rw [List.length_map]; exact D.len
  ·rw [List.length_append]; simp; lia
 ·intro q hq
  rw [kk] at hq
  split at hq
  ·exact D.good q hq
  ·rcases List.mem_append.mp hq with hq | hq
   ·exact D.good q hq
   ·simp only [List.mem_singleton] at hq; rw [hq]; exact K.good
theorem exact_row {o:Obj} {es:Array DictEntry} {ep:Nat} (x:o.ExactDict) (d:o.data=.dict es ep):o=dictOf es.toList ep:=by
 obtain ⟨a,b,c,e⟩:=o
 obtain ⟨x1,x2,x3⟩:=x
 simp only at x1 x2 x3 d
 subst x1 x2 x3 d
 simp [dictOf]
theorem pairs_keys {K:Type} [DecidableEq K] {knd:KeyKind P.prog P.w K} {es:Array DictEntry} (k:KeysOf knd es):∀ x∈es.toList,∃ c,knd.is c x.key=true∧x.hash=knd.hash c:=fun x hx=>k x (by simpa using hx)
theorem dv_set (ok:POk P) {A:Around} {E:Value→Shared→Prop} {xs:List Row3} {c:KD} {k v:V} {kv y:Value} {i ep:Nat} {es es':List (V×V)} {Q:Unit→Shared→Prop} (S:St P C W h env s) (li:i < h.n) (hn:h.n≤16000000) (m:(W.si i,dictOf (xs.map (ent P)) ep)∈W.ns) (D:DOk P W h.n es xs)
  (K:KeyAt P W h.n s.heap k c kv) (hd:headOk (vsort k) es=true) (e:dputGo k v es=some es') (hl:es.length < 1000) (rv:RV P W h.n v y) (hu:A.units + 30 < cLine)
  (q:∀ W' s',Ext W W' h (h.set i (.dict es'))→St P C W' (h.set i (.dict es')) env s'→Q () s'):wpAny (Cx.M P) A (setItem (.ref (W.si i)) kv y) Q E s:=by
 have Vw:=view S.nw (S.nw.get m) D K hd
 have D':=D.put ok S.nw K hd rv e hl
 have nt:¬ Imm (dictOf (xs.map (ent P)) ep):=ni_dict rfl
 have hx:xs.length≤1000:=D.len
 have fin:∀ (hp:Heap) (xs':List Row3) (ep' t:Nat),Heap.SameBut (W.si i) s.heap hp→hp.get? (W.si i)=some (dictOf (xs'.map (ent P)) ep')→(∀ W'':Wd,Le W W'' h.n h.n→RD P W'' h.n es' xs')→xs'.map (·.1)=(stK xs c kv y).map (·.1)→Q () { s with heap:=hp,toks:=t }:=by
  intro hp xs' ep' t hs ho R hk
  have L:Le W ⟨W.si,setRow (W.si i) (dictOf (xs'.map (ent P)) ep') W.ns⟩ h.n h.n:=⟨Nat.le_refl _,fun _ _=>rfl,fun b x i z=>setRow_ne (fun w=>nt (by rw [nod_eq S.rel.nod m (w▸z)]; exact i)) z⟩
  have lx:xs'.length=(stK xs c kv y).length:=by have:=congrArg List.length hk; simpa using this
  obtain ⟨a,b⟩:=S.put (o':=dictOf (xs'.map (ent P)) ep') (ob:=.dict es') li hn m nt hs ho ⟨xs',ep',setRow_eq m,R _ L,by rw [hk]; exact D'.nod,by rw [hk]; exact D'.uni,by rw [lx]; exact D'.len,by rw [hk]; exact D'.good⟩ t
  exact q _ _ b a
 have lp:∀ {K:Type} {g:K×Value→KD×Value} {kvs:List (K×Value)},kvs.map g=prj xs→kvs.length≤sizeLine:=fun z=>by
  have:=congrArg List.length z
  simp only [List.length_map,prj] at this
  rw [this,sizeLine_eq]; lia
 cases Vw with
 | int j kvs e1 e2 e3 e4=>
  subst e1
  refine wpAny_setItem_pairs (hsz:=lp e2) e4 e3 fun hp hd' hs=>?_
  refine pL fun G0 hG0=>?_
  obtain ⟨o,des,ep',ho,hx,hdt,hk,hpr,_⟩:=hd'
  have er:=exact_row hx hdt
  have a1:(stored kvs j y).map (embI P).g=prj (stK xs (.int j) kv y):=by rw [(embI P).stored,e2,prj_stK]; rfl
  obtain ⟨xs',b1,b2,b3⟩:=(embI P).back (hp:=hp) (fun k c key=>tokI k c key) D'.rd a1 hpr (pairs_keys hk)
  refine hG0 ?_
  refine fin hp xs' ep' _ hs (by rw [ho,er,b1]) (fun W'' L=>?_) b2
  exact b3.mono L
 | str j kvs e1 e2 e3 e4=>
  subst e1
  refine wpAny_setItem_pairs (hsz:=lp e2) e4 e3 fun hp hd' hs=>?_
  refine pL fun G0 hG0=>?_
  obtain ⟨o,des,ep',ho,hx,hdt,hk,hpr,_⟩:=hd'
  have er:=exact_row hx hdt
  have a1:(stored kvs j y).map (embS P).g=prj (stK xs (.str j) kv y):=by rw [(embS P).stored,e2,prj_stK]; rfl
  obtain ⟨xs',b1,b2,b3⟩:=(embS P).back (hp:=hp) (fun k c key=>tokS k c key) D'.rd a1 hpr (pairs_keys hk)
  refine hG0 ?_
  refine fin hp xs' ep' _ hs (by rw [ho,er,b1]) (fun W'' L=>?_) b2
  exact b3.mono L
 | tup a ts e1 e2 e3 e4=>
  subst e1 e2
  refine wpAny_setItem_heap (by show A.units + 1 + 20 < cLine; lia) e4 e3 (fun hp hd' hs=>?_) (by rw [sizeLine_eq]; rw [List.length_map] at hx; lia)
  refine pL fun G0 hG0=>?_
  obtain ⟨o,des,ep',ho,hx',hdt,he,his,_⟩:=hd'
  refine hG0 ?_
  have er:=exact_row hx' hdt
  have st:(storedH ts c a y).map back3=stK (ts.map back3) c (.ref a) y:=by
   unfold storedH stK
   have ha:(ts.map back3).any (fun r=>decide (r.1=c))=(atKey ts c).isSome:=by
    unfold atKey
    rw [Option.isSome_map,List.any_map]
    rw [Bool.eq_iff_iff,List.find?_isSome,List.any_eq_true]
    rfl
   rw [ha]
   by_cases w:(atKey ts c).isSome=true
   ·rw [if_pos w,if_pos w,List.map_map,List.map_map]
    refine List.map_congr_left fun t _=>?_
    show back3 (if t.1=c then (t.1,t.2.1,y) else t)=if t.1=c then (t.1,(.ref t.2.1:Value),y) else back3 t
    split <;> rfl
   ·rw [if_neg w,if_neg w,List.map_append]; rfl
  refine fin hp (stK (ts.map back3) c (.ref a) y) ep' _ hs ?_ (fun W'' L=>D'.rd.mono L) rfl
  rw [ho,er,he,← st,List.map_map]
  rfl
end Mine
namespace Mine
variable {P:Pm} {C:Cx} {W W':Wd} {h h':Hp} {env:List V} {s:Shared} {d n:Nat}
theorem Rel.at (r:Rel P W h) {a:Nat} {o:O} (e:h.t.get a=some o):a < h.n∧RO1 P W h.n (P.un o) (W.si a):=r.obj a o e
theorem notKt {P:Pm} {o:O} (h:∀ st,o≠.kt st):P.un o=o:=by
 induction o using O.casesOn with
 | kt st=>exact absurd rfl (h st)
 | _=>rfl
noncomputable def cOf:Nat→CmpOp
 | 0=>.Eq | 1=>.NotEq | 2=>.Lt | 3=>.LtE | 4=>.Gt | 5=>.GtE | 6=>.In | 7=>.NotIn | 8=>.Is | _=>.IsNot
section
variable {A:Around} {E:Value→Shared→Prop} {a b:V} {x y:Value} {r:Bool}
theorem eq_ok (ok:POk P) (S:St P C W h env s) (hu:A.units + 100 < cLine) (ra:RV P W h.n a x) (rb:RV P W h.n b y) (e:ifS (b3 (vsm a) (vsm b) true) (veq a b)=some r) :
  (∀ Q:Value→Shared→Prop,Q (.bool r) s→wpAny (Cx.M P) A (compareOp .Eq x y) Q E s)∧(∀ Q:Value→Shared→Prop,Q (.bool (!r)) s→wpAny (Cx.M P) A (compareOp .NotEq x y) Q E s):=by
 have e':b3 (vsm a) (vsm b) true=true∧veq a b=some r:=by
  unfold ifS at e
  split at e
  ·rename_i q; exact ⟨q,e⟩
  ·exact oX e
 refine pL fun G0 hG0=>?_
 obtain ⟨q1,q2,_⟩:=b3_eq.mp e'.1
 obtain ⟨da,as,p1,p2,p3,p4⟩:=reads_of ok S.nw ra q1
 obtain ⟨db,bs,z1,z2,z3,z4⟩:=reads_of ok S.nw rb q2
 have w:=(veq_eq ok a b r e'.2).1 _ _ p1 z1
 have hu':A.units + min da.depth db.depth < cLine:=by have:=Nat.min_le_left da.depth db.depth; lia
 subst w
 refine hG0 ?_
 exact ⟨fun Q q=>SeqAt.compareEq_reads p4 z4 p3 z3 hu' q,fun Q q=>SeqAt.compareNe_reads p4 z4 p3 z3 hu' q⟩
theorem list_pd (ok:POk P) (S:St P C W h env s) {i k:Nat} {t:Tr V} {xs:List V} (e:h.t.get i=some (.list k t)) (f:toL t k=some xs) (sm:smL xs=true) :
  ∃ ds as,PDs P xs ds∧PyData.depthAll ds≤60∧PyData.canLayAll0 ds=true∧Reads s.heap (.ref (W.si i)) (.list ds) as:=by
 refine pL fun G0 hG0=>?_
 obtain ⟨li,its,ep,h1,h2,h3,h4⟩:=S.rel.at e
 have rv:=list_rvs f h2 h4
 obtain ⟨ds,as,q1,q2,q3,q4⟩:=readsAll_of ok S.nw rv sm
 refine hG0 ?_
 exact ⟨ds,_,q1,q2,q3,.list (S.nw.get h1) rfl rfl q4⟩
theorem eqList_ok (ok:POk P) (S:St P C W h env s) (hu:A.units + 100 < cLine) {i j k l:Nat} {t u:Tr V} {xs ys:List V} (ei:h.t.get i=some (.list k t)) (ej:h.t.get j=some (.list l u)) (fi:toL t k=some xs) (fj:toL u l=some ys)
  (e:ifS (b3 (smL xs) (smL ys) true) (eqL xs ys)=some r) :
  (∀ Q:Value→Shared→Prop,Q (.bool r) s→wpAny (Cx.M P) A (compareOp .Eq (.ref (W.si i)) (.ref (W.si j))) Q E s)∧(∀ Q:Value→Shared→Prop,Q (.bool (!r)) s→wpAny (Cx.M P) A (compareOp .NotEq (.ref (W.si i)) (.ref (W.si j))) Q E s):=by
 have e':b3 (smL xs) (smL ys) true=true∧eqL xs ys=some r:=by
  unfold ifS at e
  split at e
  ·rename_i q; exact ⟨q,e⟩
  ·exact oX e
 refine pL fun G0 hG0=>?_
 obtain ⟨q1,q2,_⟩:=b3_eq.mp e'.1
 obtain ⟨da,as,p1,p2,p3,p4⟩:=list_pd ok S ei fi q1
 obtain ⟨db,bs,z1,z2,z3,z4⟩:=list_pd ok S ej fj q2
 refine hG0 ?_
 have w:=eqL_eq ok xs ys r e'.2 _ _ p1 z1
 have la:(PyData.list da).canLay0=true:=by simp only [PyData.canLay0]; exact p3
 have lb:(PyData.list db).canLay0=true:=by simp only [PyData.canLay0]; exact z3
 have hd:(PyData.list da).depth≤61:=by simp only [PyData.depth]; lia
 have hu':A.units + min (PyData.list da).depth (PyData.list db).depth < cLine:=by have:=Nat.min_le_left (PyData.list da).depth (PyData.list db).depth; lia
 have e2:PyData.eqv (.list da) (.list db)=r:=by simp only [PyData.eqv]; exact w.symm
 exact ⟨fun Q q=>SeqAt.compareEq_reads p4 z4 la lb hu' (by rw [e2]; exact q),fun Q q=>SeqAt.compareNe_reads p4 z4 la lb hu' (by rw [e2]; exact q)⟩
theorem memTup_ok (ok:POk P) (S:St P C W h env s) (hu:A.units + 100 < cLine) (ra:RV P W h.n a x) (rb:RV P W h.n b y) {xs:List V} (f:tupL b=some xs) (q1:vsm a=true) (q2:vsm b=true) (e:memL a xs=some r) :
  (∀ Q:Value→Shared→Prop,Q (.bool r) s→wpAny (Cx.M P) A (compareOp .In x y) Q E s)∧(∀ Q:Value→Shared→Prop,Q (.bool (!r)) s→wpAny (Cx.M P) A (compareOp .NotIn x y) Q E s):=by
 refine pL fun G0 hG0=>?_
 obtain ⟨da,as,p1,p2,p3,p4⟩:=reads_of ok S.nw ra q1
 obtain ⟨db,bs,z1,z2,z3,z4⟩:=reads_of ok S.nw rb q2
 refine hG0 ?_
 have hl:∃ l,db=.tuple l∧pds P b=some l:=by
  induction b using V.casesOn with
  | tn=>(obtain rfl:=Option.some.inj z1); exact ⟨[],rfl,rfl⟩
  | tc u w=>
   rw [pd_tc] at z1
   obtain ⟨a1,ha,hu⟩:=Option.bind_eq_some_iff.mp z1
   obtain ⟨l1,hl,rfl⟩:=Option.map_eq_some_iff.mp hu
   exact ⟨_,rfl,by rw [pds_tc,ha,hl]; rfl⟩
  | _=>exact oX f
 obtain ⟨l,rfl,hl⟩:=hl
 have pl:=pds_PDs b xs f l hl
 have w:=memL_eq ok p1 xs r e l pl
 simp only [PyData.canLay0] at z3
 have hu':A.units + 1 + min (PyData.depthAll l) da.depth < cLine:=by have:=Nat.min_le_right (PyData.depthAll l) da.depth; lia
 subst w
 exact ⟨fun Q q=>SeqAt.in_tuple_reads z4 p4 z3 p3 hu' q,fun Q q=>SeqAt.notIn_tuple_reads z4 p4 z3 p3 hu' q⟩
theorem memList_ok (ok:POk P) (S:St P C W h env s) (hu:A.units + 100 < cLine) (ra:RV P W h.n a x) {i k:Nat} {t:Tr V} {xs:List V} (ei:h.t.get i=some (.list k t)) (fi:toL t k=some xs) (q1:vsm a=true) (q2:smL xs=true) (e:memL a xs=some r) :
  (∀ Q:Value→Shared→Prop,Q (.bool r) s→wpAny (Cx.M P) A (compareOp .In x (.ref (W.si i))) Q E s)∧(∀ Q:Value→Shared→Prop,Q (.bool (!r)) s→wpAny (Cx.M P) A (compareOp .NotIn x (.ref (W.si i))) Q E s):=by
 refine pL fun G0 hG0=>?_
 obtain ⟨da,as,p1,p2,p3,p4⟩:=reads_of ok S.nw ra q1
 obtain ⟨l,bs,z1,z2,z3,z4⟩:=list_pd ok S ei fi q2
 have w:=memL_eq ok p1 xs r e l z1
 have hu':A.units + 1 + min (PyData.depthAll l) da.depth < cLine:=by have:=Nat.min_le_right (PyData.depthAll l) da.depth; lia
 subst w
 refine hG0 ?_
 exact ⟨fun Q q=>SeqAt.in_list_reads z4 p4 z3 p3 hu' q,fun Q q=>SeqAt.notIn_list_reads z4 p4 z3 p3 hu' q⟩
end
end Mine
namespace Mine
section
variable {prog:Program} {w:World} {A:Around} {E:Value→Shared→Prop} {s:Shared} {K:Type} [DecidableEq K] {knd:HeapKind prog w K}
inductive HHits (A:Around) (s:Shared) (tb:List (K×Addr×Value)):List (K×Addr×Value)→Bool→Prop
 | nil:HHits A s tb [] true
 | miss {k a v r}:atKey tb k=none→HHits A s tb ((k,a,v)::r) false
 | off {k a v r p}:atKey tb k=some p→SeqAt.EqAt A s v p.2 false→HHits A s tb ((k,a,v)::r) false
 | hit {k a v r p b}:atKey tb k=some p→SeqAt.EqAt A s v p.2 true→HHits A s tb r b→HHits A s tb ((k,a,v)::r) b
theorem HHits.inv {tb l:List (K×Addr×Value)} {t:K×Addr×Value} {r:Bool} (h:HHits A s tb (t::l) r) :
  (atKey tb t.1=none→r=false)∧∀ p,atKey tb t.1=some p→(SeqAt.EqAt A s t.2.2 p.2 false∧r=false)∨(SeqAt.EqAt A s t.2.2 p.2 true∧HHits A s tb l r):=by
 cases h with
 | miss h=>exact ⟨fun _=>rfl,fun p q=>oX (h.symm.trans q)⟩
 | off h1 h2=>exact ⟨fun q=>oX (h1.symm.trans q),fun p q=>.inl ⟨Option.some.inj (h1.symm.trans q)▸h2,rfl⟩⟩
 | hit h1 h2 h3=>exact ⟨fun q=>oX (h1.symm.trans q),fun p q=>.inr ⟨Option.some.inj (h1.symm.trans q)▸h2,h3⟩⟩
theorem HHits.nil_inv {tb:List (K×Addr×Value)} {r:Bool} (h:HHits A s tb [] r):r=true:=by cases h; rfl
theorem range_cons {x i n:Nat} {rest:List Nat} (h:x::rest=List.range' i (n - i)):x=i∧i < n∧rest=List.range' (i + 1) (n - (i + 1)):=by
 rcases Nat.lt_or_ge i n with l | l
 ·rw [show n - i=(n - (i + 1)) + 1 by lia,List.range'_succ] at h
  exact ⟨(List.cons.inj h).1,l,(List.cons.inj h).2⟩
 ·rw [Nat.sub_eq_zero_of_le l] at h; exact lX h
theorem range_nil {i n:Nat} (h:[]=List.range' i (n - i)):n≤i:=by
 rcases Nat.lt_or_ge i n with l | l
 ·rw [show n - i=(n - (i + 1)) + 1 by lia,List.range'_succ] at h; exact lX h
 ·exact l
theorem sp_turn {n x i:Nat} {ta tb:List (K×Addr×Value)} {es:Array DictEntry} {r:Bool} (hn:n=ta.length) (ex:x=i) (hlt:i < n) (hea:es.toList=ta.map (entryOfKey knd)) (hh:HHits A s tb (ta.drop i) r) (hi:∀ y∈ta.drop i,knd.is s.heap y.1 y.2.1) :
  ∃ t,es[x]?=some (entryOfKey knd t)∧knd.is s.heap t.1 t.2.1∧HHits A s tb (t::ta.drop (x + 1)) r∧∀ y∈ta.drop (x + 1),knd.is s.heap y.1 y.2.1:=by
 rw [hn] at hlt
 rw [List.drop_eq_getElem_cons hlt] at hh hi
 rw [ex]
 exact ⟨ta[i],by rw [entry_at hea i,List.getElem?_eq_getElem hlt]; rfl,hi _ (.head _),hh,fun y hy=>hi y (.tail _ hy)⟩
theorem samePairs_heap {nm:String} {a b:Addr} {ta tb:List (K×Addr×Value)} {r:Bool} {Q:Bool→Shared→Prop} (ha:(a == sysModules)=false) (hb:(b == sysModules)=false) (hu:knd.room A)
  (da:s.heap.DictOfH knd a ta) (db:s.heap.DictOfH knd b tb) (hl:ta.length=tb.length) (hits:HHits A s tb ta r) (h:Q r s):wpAny (model prog w) A (Builtin.Dict.samePairs nm a b) Q E s:=by
 refine pL fun G0 hG0=>?_
 obtain ⟨oa,es,ep,hoa,_,hda,hea,hia,_⟩:=da
 obtain ⟨ob,fs,ep',hob,_,hdb,heb,hib,hnb⟩:=db
 have hla:es.size=ta.length:=size_of_entries hea
 have hne:(es.size != fs.size)=false:=by rw [hla,size_of_entries heb,hl]; simp
 refine hG0 ?_
 unfold Builtin.Dict.samePairs Builtin.Dict.showsAll
 rw [if_neg (show ¬ (a == sysModules)=true by rw [ha]; exact Bool.false_ne_true),if_neg (show ¬ (b == sysModules)=true by rw [hb]; exact Bool.false_ne_true)]
 refine wpAny_bind (wpAny_pure (wpAny_bind (wpAny_pure (wpAny_bind (wpAny_dictEntries hoa hda (wpAny_bind (wpAny_dictEntries hob hdb ?_)))))))
 rw [if_neg (by rw [hne]; exact Bool.false_ne_true)]
 refine wpAny_bind (wpAny_dictEpoch hoa hda (wpAny_bind ?_))
 rw [Std.Legacy.Range.forIn_eq_forIn_range']
 simp only [Std.Legacy.Range.size,Nat.sub_zero,Nat.add_sub_cancel,Nat.div_one]
 refine wpAny_forIn_list _ (fun rest q s'=>s'=s∧q=(none,())∧∃ i,rest=List.range' i (es.size - i)∧HHits A s tb (ta.drop i) r∧(∀ x∈ta.drop i,knd.is s.heap x.1 x.2.1)) _ ?_ ?_ _ _ ⟨rfl,rfl,0,by simp,hits,hia⟩
 ·intro x rest q s' hI
  refine pL fun G0 hG0=>?_
  obtain ⟨e1,e2,i,hr,hh,hi⟩:=hI
  obtain ⟨ex,hlt,er⟩:=range_cons hr
  obtain ⟨t,hget,hkey,hh,hi⟩:=sp_turn hla ex hlt hea hh hi
  have hin:=hh.inv
  refine hG0 ?_
  rw [e1,er,← ex]
  refine wpAny_bind (wpAny_dictEntries hoa hda ?_)
  rw [hget]
  show wpAny _ _ (holding [(Value.ref t.2.1),t.2.2] _ >>= _) _ _ _
  refine wpAny_bind (wpAny_holding (wpAny_bind (wpAny_dictFind_heap (k:=t.1) hu hkey hob hdb heb hib hnb (fun hno=>?_) (fun j p hj=>?_))))
  ·have hz:=hin.1 (atKey_none_of_get hno)
   refine wpAny_pure ?_
   show wpAny _ _ (if (!false)=true then _ else _) _ _ _
   rw [if_pos (by decide)]
   exact wpAny_pure (wpAny_pure (hz▸h))
  ·have hz:=hin.2 _ (atKey_of_get hnb hj)
   refine wpAny_bind (wpAny_dictEntries hob hdb ?_)
   rw [entry_at heb j,hj]
   show wpAny _ _ (holding [p.2] (eqBool t.2.2 p.2)) _ _ _
   rcases hz with hz | hz
   ·refine wpAny_holding (hz.1 prog w _ _ ?_)
    show wpAny _ _ (if (!false)=true then _ else _) _ _ _
    rw [if_pos (by decide)]
    exact wpAny_pure (wpAny_pure (hz.2▸h))
   ·refine wpAny_holding (hz.1 prog w _ _ ?_)
    show wpAny _ _ (if (!true)=true then _ else _) _ _ _
    rw [if_neg (by decide)]
    refine wpAny_bind (wpAny_dictEpoch hoa hda ?_)
    rw [if_neg (by simp)]
    exact wpAny_pure ⟨rfl,rfl,x + 1,rfl,hz.2,hi⟩
 ·intro q s' hI
  obtain ⟨e1,e2,i,hr,hh,hi⟩:=hI
  rw [e1,e2]
  rw [List.drop_eq_nil_of_le (hla▸range_nil hr)] at hh
  exact wpAny_pure (hh.nil_inv▸h)
theorem eqDict_heap {a b:Addr} {ta tb:List (K×Addr×Value)} {r:Bool} (ha:(a == sysModules)=false) (hb:(b == sysModules)=false) (hu:A.units < cLine) (hr:knd.room A.in1) (da:s.heap.DictOfH knd a ta) (db:s.heap.DictOfH knd b tb) (hl:ta.length=tb.length) (hits:HHits A.in1 s tb ta r) :
  (∀ Q:Value→Shared→Prop,Q (.bool r) s→wpAny (model prog w) A (compareOp .Eq (.ref a) (.ref b)) Q E s)∧(∀ Q:Value→Shared→Prop,Q (.bool (!r)) s→wpAny (model prog w) A (compareOp .NotEq (.ref a) (.ref b)) Q E s):=by
 constructor
 ·intro Q h
  refine wpAny_richCompare_same_room (op:=.Eq) da.typeIs db.typeIs PySem.F.slot_dict_eq (wpAny_call_entry PySem.F.slot_dict_eq da.typeIs PySem.F.entry_dict_eq ?_ (PySem.F.args_dict_eq_2 _ _)) hu
  show wpAny _ _ (Builtin.Dict.dictSlotArgs "__eq__" ⟨[.ref a,.ref b],[]⟩ >>= _) _ _ s
  unfold Builtin.Dict.dictSlotArgs
  refine wpAny_bind (wpAny_bind (wpAny_notOrdered_dict da.typeIs ?_))
  show wpAny _ _ (pure (Value.ref a,Value.ref b)) _ _ s
  refine wpAny_pure ?_
  refine wpAny_bind (wpAny_isInstance (T:="dict") db.typeIs PySem.F.sub_dict_dict ?_)
  simp only [Bool.not_true,Bool.false_eq_true,if_false]
  refine wpAny_bind (wpAny_pure (wpAny_bind (wpAny_pure ?_)))
  exact wpAny_bind (samePairs_heap ha hb hr da db hl hits (wpAny_pure ⟨_,rfl,(fun x=>nomatch x),by simpa using h⟩))
 ·intro Q h
  refine wpAny_richCompare_same_room (op:=.NotEq) da.typeIs db.typeIs PySem.F.slot_dict_ne (wpAny_call_entry PySem.F.slot_dict_ne da.typeIs PySem.F.entry_dict_ne ?_ (PySem.F.args_dict_ne_2 _ _)) hu
  show wpAny _ _ (Builtin.Dict.dictSlotArgs "__ne__" ⟨[.ref a,.ref b],[]⟩ >>= _) _ _ s
  unfold Builtin.Dict.dictSlotArgs
  refine wpAny_bind (wpAny_bind (wpAny_notOrdered_dict da.typeIs ?_))
  show wpAny _ _ (pure (Value.ref a,Value.ref b)) _ _ s
  refine wpAny_pure ?_
  refine wpAny_bind (wpAny_isInstance (T:="dict") db.typeIs PySem.F.sub_dict_dict ?_)
  simp only [Bool.not_true,Bool.false_eq_true,if_false]
  refine wpAny_bind (wpAny_pure (wpAny_bind (wpAny_pure ?_)))
  exact wpAny_bind (samePairs_heap ha hb hr da db hl hits (wpAny_pure ⟨_,rfl,(fun x=>nomatch x),by simpa using h⟩))
end
end Mine
namespace Mine
variable {P:Pm} {C:Cx} {W W':Wd} {h h':Hp} {env:List V} {s:Shared} {d n:Nat}
noncomputable def biN:Nat→String
 | 0=>"len" | 1=>"range" | 2=>"sorted" | 3=>"tuple" | _=>"str"
noncomputable def GR (P:Pm) (K:Frag) (q:G) (y:Value):Prop:=match q with
 | .bi 0=>y=.builtin "len"
 | .bi 1=>y=.type "range"
 | .bi 2=>y=.builtin "sorted"
 | .bi 3=>y=.type "tuple"
 | .bi 4=>y=.type "str"
 | .bi _=>False
 | .cls c=>y=.ref (P.ca c)
 | .fn f=>y=.ref (P.fa f)
 | .val v=>∀ W n,RV P W n v y
 | .tab es=>∃ b xs ep,y=.ref b∧K.lookup b=some (dictOf (xs.map (ent P)) ep)∧sysModules < b∧∀ W n,DOk P W n es xs
noncomputable def GOk (P:Pm) (K:Frag):Prop:=∀ g q,glbT.get g=some q→GR P K q (P.gv g)
section
variable {A:Around} {E:Value→Shared→Prop} {a b:V} {x y:Value} {r:Bool}
theorem ifS_some {c:Bool} {o:Option Bool} (e:ifS c o=some r):c=true∧o=some r:=by
 induction c using Bool.casesOn with
 | true=>exact ⟨rfl,e⟩
 | false=>exact oX e
theorem rd_len {es:List (V×V)} {xs:List Row3} (R:RD P W n es xs):es.length=xs.length:=by
 induction R with
 | nil=>rfl
 | cons _ _ _ _ ih=>simp [ih]
theorem head3 {es:List (V×V)} {xs:List Row3} (D:DOk P W n es xs) (e:headOk 3 es=true):∀ q∈xs,q.1.sort=3:=sort_all D (k:=.tn) (c:=.tn) rfl e
theorem hits_of (ok:POk P) (S:St P C W h env s) (hu:A.units + 100 < cLine) {es fs:List (V×V)} {xs ys:List Row3} (D:DOk P W h.n fs ys) {ts us:List (KD×Addr×Value)} (ey:ys=us.map back3) (R:RD P W h.n es xs) (ex:xs=ts.map back3) (hg:∀ k∈xs.map (·.1),k.good) {r:Bool} (e:eqD fs es=some r) :
  HHits A s us ts r:=by
 induction R generalizing ts r with
 | nil=>
  induction ts using List.casesOn with
  | nil=>(obtain rfl:=Option.some.inj e); exact .nil
  | cons t l=>exact lX ex
 | @cons p v c' key y es ds e1 r1 r2 _ ih=>
  induction ts using List.casesOn with
  | nil=>exact lX ex
  | cons t l=>
   obtain ⟨ex1,ex2⟩:=List.cons.inj ex
   obtain ⟨tc,ta,tv⟩:=t
   have q1:c'=tc:=congrArg (·.1) ex1
   have q2:key=.ref ta:=congrArg (·.2.1) ex1
   have q3:y=tv:=congrArg (·.2.2) ex1
   subst q1 q2 q3
   have e':(match find p fs with
    | some q=>(match q with | some u=>oAnd (ifS (b3 (vsm v) (vsm u) true) (veq v u)) (eqD fs es) | none=>some false)
    | none=>none)=some r:=e
   split at e'
   ·rename_i q hq
    obtain ⟨f1,f2⟩:=onB_some hq
    obtain ⟨g1,g2,_⟩:=b3_eq.mp f1
    have K:KeyAt P W h.n s.heap p c' (.ref ta):=by
     obtain ⟨z1,z2⟩:=(ki_of S.nw p).1 c' _ e1 r1
     exact ⟨e1,r1,z1,z2,hg _ (.head _)⟩
    have fv:=find_val ok S.nw D K f2
    subst ey
    rw [← atKey_prj] at fv
    split at e'
    ·rename_i u
     generalize hz:(atKey us c').map (·.2)=o at fv
     cases fv with
     | some rv=>
      obtain ⟨pp,hp,rfl⟩:=Option.map_eq_some_iff.mp hz
      rcases oAnd_some e' with ⟨w1,rfl⟩ | ⟨w1,w2⟩
      ·obtain ⟨s1,s2⟩:=ifS_some w1
       obtain ⟨m1,m2,_⟩:=b3_eq.mp s1
       obtain ⟨da,as,p1,p2,p3,p4⟩:=reads_of ok S.nw r2 m1
       obtain ⟨db,bs,z1,z2,z3,z4⟩:=reads_of ok S.nw rv m2
       have w:=(veq_eq ok v u _ s2).1 _ _ p1 z1
       have hu':A.units + min da.depth db.depth < cLine:=by have:=Nat.min_le_left da.depth db.depth; lia
       have ea:=SeqAt.eqAt_reads da db A s y pp.2 as bs p4 z4 p3 z3 hu'
       rw [← w] at ea
       exact .off hp ea
      ·obtain ⟨s1,s2⟩:=ifS_some w1
       refine pL fun G0 hG0=>?_
       obtain ⟨m1,m2,_⟩:=b3_eq.mp s1
       obtain ⟨da,as,p1,p2,p3,p4⟩:=reads_of ok S.nw r2 m1
       obtain ⟨db,bs,z1,z2,z3,z4⟩:=reads_of ok S.nw rv m2
       refine hG0 ?_
       have w:=(veq_eq ok v u _ s2).1 _ _ p1 z1
       have hu':A.units + min da.depth db.depth < cLine:=by have:=Nat.min_le_left da.depth db.depth; lia
       have ea:=SeqAt.eqAt_reads da db A s y pp.2 as bs p4 z4 p3 z3 hu'
       rw [← w] at ea
       exact .hit hp ea (ih ex2 (fun k m=>hg k (.tail _ m)) w2)
    ·(obtain rfl:=Option.some.inj e')
     generalize hz:(atKey us c').map (·.2)=o at fv
     cases fv with
     | none=>exact .miss (Option.map_eq_none_iff.mp hz)
   ·exact oX e'
theorem eqDict_ok (ok:POk P) (S:St P C W h env s) (hu:A.units + 120 < cLine) {i j:Nat} {es fs:List (V×V)} (ei:h.t.get i=some (.dict es)) (ej:h.t.get j=some (.dict fs)) (e:ifS (b3 (headOk 3 es) (headOk 3 fs) (Nat.beq es.length fs.length)) (eqD fs es)=some r) :
  (∀ Q:Value→Shared→Prop,Q (.bool r) s→wpAny (Cx.M P) A (compareOp .Eq (.ref (W.si i)) (.ref (W.si j))) Q E s)∧(∀ Q:Value→Shared→Prop,Q (.bool (!r)) s→wpAny (Cx.M P) A (compareOp .NotEq (.ref (W.si i)) (.ref (W.si j))) Q E s):=by
 refine pL fun G0 hG0=>?_
 obtain ⟨e1,e2⟩:=ifS_some e
 obtain ⟨q1,q2,q3⟩:=b3_eq.mp e1
 rw [beqD,decide_eq_true_iff] at q3
 obtain ⟨li,xs,ep,mi,D⟩:=S.rel.at ei
 obtain ⟨lj,ys,ep',mj,D'⟩:=S.rel.at ej
 obtain ⟨ts,ex,hi⟩:=tupRows S.nw D.rd (head3 D q1) D.good
 obtain ⟨us,ey,hj⟩:=tupRows S.nw D'.rd (head3 D' q2) D'.good
 refine hG0 ?_
 have l1:=rd_len D.rd
 have l2:=rd_len D'.rd
 have hl:ts.length=us.length:=by rw [ex,List.length_map] at l1; rw [ey,List.length_map] at l2; lia
 have lo:∀ a o,(a,o)∈W.ns→(a == sysModules)=false:=fun a o m=>beq_eq_false_iff_ne.mpr (Nat.ne_of_gt (S.rel.low _ m))
 have mk:∀ {b:Addr} {zs:List Row3} {ep:Nat} {vs:List (KD×Addr×Value)},(b,dictOf (zs.map (ent P)) ep)∈W.ns→zs=vs.map back3→(∀ t∈vs,(kdKind P.prog P.w).is s.heap t.1 t.2.1)→(zs.map (·.1)).Nodup→s.heap.DictOfH (kdKind P.prog P.w) b vs:=by
  intro b zs ep vs m ez hv hn
  refine ⟨_,_,ep,S.nw.get m,⟨rfl,rfl,rfl⟩,rfl,?_,hv,?_⟩
  ·rw [ez,List.map_map]; rfl
  ·rw [ez,List.map_map] at hn; exact hn
 exact eqDict_heap (lo _ _ mi) (lo _ _ mj) (by lia) (by show A.units + 1 + 20 < cLine; lia) (mk mi ex hi D.nod) (mk mj ey hj D'.nod) hl (hits_of (A:=A.in1) ok S (by show A.units + 1 + 100 < cLine; lia) D' ey D.rd ex D.good e2)
theorem oNot_some {o:Option Bool} (e:oNot o=some r):o=some (!r):=by
 induction o using Option.casesOn with
 | none=>exact oX e
 | some b=>(obtain rfl:=Option.some.inj e); simp
theorem eqop_ok (ok:POk P) (S:St P C W h env s) (hu:A.units + 120 < cLine) (ra:RV P W h.n a x) (rb:RV P W h.n b y) (e:eqop h a b=some r) :
  (∀ Q:Value→Shared→Prop,Q (.bool r) s→wpAny (Cx.M P) A (compareOp .Eq x y) Q E s)∧(∀ Q:Value→Shared→Prop,Q (.bool (!r)) s→wpAny (Cx.M P) A (compareOp .NotEq x y) Q E s):=by
 by_cases h1:∃ i,a=.ref i
 ·obtain ⟨i,rfl⟩:=h1
  induction b using V.casesOn with
  | ref j=>
   have e':eqR h i j=some r:=e
   unfold eqR at e'
   split at e'
   ·exact oX e'
   ·simp only [RV] at ra rb
    refine pL fun G0 hG0=>?_
    obtain ⟨_,rfl⟩:=ra
    obtain ⟨_,rfl⟩:=rb
    refine hG0 ?_
    induction ei:h.t.get i using Option.casesOn with
    | none=>rw [ei] at e'; exact oX e'
    | some oi=>
     induction ej:h.t.get j using Option.casesOn with
     | none=>rw [ei,ej] at e'; cases oi <;> exact oX e'
     | some oj=>
      rw [ei,ej] at e'
      induction oi using O.casesOn with
      | list k t=>
       induction oj using O.casesOn with
       | list l u=>
        have e2:(match toL t k,toL u l with | some xs,some ys=>ifS (b3 (smL xs) (smL ys) true) (eqL xs ys) | _,_=>none)=some r:=e'
        split at e2
        ·rename_i xs ys f1 f2; exact eqList_ok ok S (by lia) ei ej f1 f2 e2
        ·exact oX e2
       | _=>exact oX e'
      | dict es=>
       induction oj using O.casesOn with
       | dict fs=>exact eqDict_ok ok S hu ei ej e'
       | _=>exact oX e'
      | _=>cases oj <;> exact oX e'
  | _=>exact oX e
 ·have e':ifS (b3 (vsm a) (vsm b) true) (veq a b)=some r:=by
   induction a using V.casesOn with
   | ref i=>exact absurd ⟨i,rfl⟩ h1
   | _=>exact e
  exact eq_ok ok S (by lia) ra rb e'
theorem tab_view (ok:POk P) (S:St P C W h env s) {K:Frag} (X:K.In s.heap) {es:List (V×V)} {y:Value} (gr:GR P K (.tab es) y) {k:V} {x:Value} (rk:RV P W h.n k x) {q:Option V} (e:find k es=some q) :
  ∃ b xs c,y=.ref b∧sysModules < b∧View P s.heap b xs c x∧ORV P W h.n q (valueAt (prj xs) c):=by
 refine pL fun G0 hG0=>?_
 obtain ⟨b,xs,ep,rfl,hl,lo,hd⟩:=gr
 obtain ⟨e1,e2⟩:=onB_some e
 obtain ⟨q1,q2,_⟩:=b3_eq.mp e1
 obtain ⟨c,KA⟩:=keyAt ok S.nw rk q1
 refine hG0 ?_
 have D:=hd W h.n
 exact ⟨b,xs,c,rfl,lo,view S.nw (X _ _ hl) D KA q2,find_val ok S.nw D KA e2⟩
theorem dict_view (ok:POk P) (S:St P C W h env s) {i:Nat} {es:List (V×V)} (ei:h.t.get i=some (.dict es)) {k:V} {x:Value} (rk:RV P W h.n k x) {q:Option V} (e:find k es=some q) :
  ∃ xs c,sysModules < W.si i∧View P s.heap (W.si i) xs c x∧ORV P W h.n q (valueAt (prj xs) c):=by
 refine pL fun G0 hG0=>?_
 obtain ⟨li,xs,ep,mi,D⟩:=S.rel.at ei
 obtain ⟨e1,e2⟩:=onB_some e
 obtain ⟨q1,q2,_⟩:=b3_eq.mp e1
 obtain ⟨c,KA⟩:=keyAt ok S.nw rk q1
 refine hG0 ?_
 exact ⟨xs,c,S.rel.low _ mi,view S.nw (S.nw.get mi) D KA q2,find_val ok S.nw D KA e2⟩
theorem inF_some {o:Option (Option V)} (e:inF o=some r):∃ q,o=some q∧q.isSome=r:=by
 induction o using Option.casesOn with
 | none=>exact oX e
 | some q=>cases q with
  | none=>(obtain rfl:=Option.some.inj e); exact ⟨_,rfl,rfl⟩
  | some v=>(obtain rfl:=Option.some.inj e); exact ⟨_,rfl,rfl⟩
theorem inop_ok (ok:POk P) (S:St P C W h env s) {K:Frag} (X:K.In s.heap) (G:GOk P K) (hu:A.units + 120 < cLine) (ra:RV P W h.n a x) (rb:RV P W h.n b y) (e:inop h a b=some r) :
  (∀ Q:Value→Shared→Prop,(∀ t,Q (.bool r) { s with toks:=t })→wpAny (Cx.M P) A (compareOp .In x y) Q E s)∧(∀ Q:Value→Shared→Prop,(∀ t,Q (.bool (!r)) { s with toks:=t })→wpAny (Cx.M P) A (compareOp .NotIn x y) Q E s):=by
 induction b using V.casesOn with
 | tn=>
  refine pL fun G0 hG0=>?_
  obtain ⟨q1,q2⟩:=ifS_some e
  (obtain rfl:=Option.some.inj q2)
  obtain ⟨z1,z2⟩:=memTup_ok (A:=A) (E:=E) ok S (by lia) ra rb (xs:=[]) rfl q1 rfl (r:=false) rfl
  refine hG0 ?_
  exact ⟨fun Q q=>z1 Q (q s.toks),fun Q q=>z2 Q (q s.toks)⟩
 | tc u w=>
  have e':(match tupL (.tc u w) with | some xs=>ifS (b3 (vsm a) (vsm (.tc u w)) true) (memL a xs) | none=>none)=some r:=e
  split at e'
  ·rename_i xs hx
   refine pL fun G0 hG0=>?_
   obtain ⟨q,q3⟩:=ifS_some e'
   obtain ⟨q1,q2,_⟩:=b3_eq.mp q
   obtain ⟨z1,z2⟩:=memTup_ok (A:=A) (E:=E) ok S (by lia) ra rb hx q1 q2 q3
   refine hG0 ?_
   exact ⟨fun Q q=>z1 Q (q s.toks),fun Q q=>z2 Q (q s.toks)⟩
  ·exact oX e'
 | ref j=>
  simp only [RV] at rb
  obtain ⟨_,rfl⟩:=rb
  have e':inO a (h.t.get j)=some r:=e
  induction ej:h.t.get j using Option.casesOn with
  | none=>rw [ej] at e'; exact oX e'
  | some oj=>
   rw [ej] at e'
   induction oj using O.casesOn with
   | list l u=>
    have e2:(match toL u l with | some xs=>ifS (b3 (vsm a) (smL xs) true) (memL a xs) | none=>none)=some r:=e'
    split at e2
    ·rename_i xs hx
     refine pL fun G0 hG0=>?_
     obtain ⟨q,q3⟩:=ifS_some e2
     obtain ⟨q1,q2,_⟩:=b3_eq.mp q
     obtain ⟨z1,z2⟩:=memList_ok (A:=A) (E:=E) ok S (by lia) ra ej hx q1 q2 q3
     refine hG0 ?_
     exact ⟨fun Q q=>z1 Q (q s.toks),fun Q q=>z2 Q (q s.toks)⟩
    ·exact oX e2
   | dict es=>
    refine pL fun G0 hG0=>?_
    obtain ⟨q,hq,rfl⟩:=inF_some e'
    obtain ⟨xs,c,lo,Vw,ov⟩:=dict_view ok S ej ra hq
    refine hG0 ?_
    exact ⟨fun Q z=>dv_in Vw lo (by lia) fun t=>by rw [ov.isSome]; exact z t,fun Q z=>dv_notIn Vw lo (by lia) fun t=>by rw [ov.isSome]; exact z t⟩
   | _=>exact oX e'
 | glb g=>
  simp only [RV] at rb
  subst rb
  have e':inG a (glbT.get g)=some r:=e
  induction eg:glbT.get g using Option.casesOn with
  | none=>rw [eg] at e'; exact oX e'
  | some qg=>
   rw [eg] at e'
   cases qg with
   | tab es=>
    refine pL fun G0 hG0=>?_
    obtain ⟨q,hq,rfl⟩:=inF_some e'
    obtain ⟨b,xs,c,eb,lo,Vw,ov⟩:=tab_view ok S X (G g _ eg) ra hq
    refine hG0 ?_
    rw [eb]
    exact ⟨fun Q z=>dv_in Vw lo (by lia) fun t=>by rw [ov.isSome]; exact z t,fun Q z=>dv_notIn Vw lo (by lia) fun t=>by rw [ov.isSome]; exact z t⟩
   | _=>exact oX e'
 | _=>exact oX e
theorem isop_ok (S:St P C W h env s) (ra:RV P W h.n a x) (rb:RV P W h.n b y) (e:isop a b=some r) :
  (∀ Q:Value→Shared→Prop,Q (.bool r) s→wpAny (Cx.M P) A (compareOp .Is x y) Q E s)∧(∀ Q:Value→Shared→Prop,Q (.bool (!r)) s→wpAny (Cx.M P) A (compareOp .IsNot x y) Q E s):=by
 cases b with
 | none=>
  simp only [RV] at rb
  subst rb
  have key:∀ x:Value,plainIs x .none=true→(x == Value.none)=r→(∀ Q:Value→Shared→Prop,Q (.bool r) s→wpAny (Cx.M P) A (compareOp .Is x .none) Q E s)∧(∀ Q:Value→Shared→Prop,Q (.bool (!r)) s→wpAny (Cx.M P) A (compareOp .IsNot x .none) Q E s):=
   fun x p q=>⟨fun Q z=>wpAny_is_plain p (by rw [q]; exact z),fun Q z=>wpAny_isNot_plain p (by rw [q]; exact z)⟩
  cases a with
  | none=>simp only [RV] at ra; subst ra; (obtain rfl:=Option.some.inj e); exact key _ rfl rfl
  | bool _=>simp only [RV] at ra; subst ra; (obtain rfl:=Option.some.inj e); exact key _ rfl rfl
  | int _=>simp only [RV] at ra; obtain ⟨t,rfl⟩:=ra; (obtain rfl:=Option.some.inj e); exact key _ rfl rfl
  | str _=>simp only [RV] at ra; obtain ⟨t,rfl⟩:=ra; (obtain rfl:=Option.some.inj e); exact key _ rfl rfl
  | dyn=>simp only [RV] at ra; obtain ⟨_,t,rfl,_⟩:=ra; (obtain rfl:=Option.some.inj e); exact key _ rfl rfl
  | ref _=>simp only [RV] at ra; obtain ⟨_,rfl⟩:=ra; (obtain rfl:=Option.some.inj e); exact key _ rfl rfl
  | si _=>simp only [RV] at ra; obtain ⟨t,rfl⟩:=ra; (obtain rfl:=Option.some.inj e); exact key _ rfl rfl
  | kd _=>simp only [RV] at ra; obtain ⟨t,rfl⟩:=ra; (obtain rfl:=Option.some.inj e); exact key _ rfl rfl
  | tn=>simp only [RV] at ra; obtain ⟨t,rfl,_⟩:=ra; (obtain rfl:=Option.some.inj e); exact key _ rfl rfl
  | tc _ _=>simp only [RV] at ra; obtain ⟨t,_,_,rfl,_⟩:=ra; (obtain rfl:=Option.some.inj e); exact key _ rfl rfl
  | _=>exact oX e
 | _=>exact oX e
theorem notlt_le (i j:Int):(!decide (j < i))=decide (i≤j):=by
 by_cases q:j < i
 ·rw [decide_eq_true q,decide_eq_false (by lia)]; rfl
 ·rw [decide_eq_false q,decide_eq_true (by lia)]; rfl
theorem ord_ok (ok:POk P) (S:St P C W h env s) (ra:RV P W h.n a x) (rb:RV P W h.n b y) {k:Nat} (h2:2≤k) (h5:k≤5) (e:ordop k a b=some r) (Q:Value→Shared→Prop) (q:Q (.bool r) s):wpAny (Cx.M P) A (compareOp (cOf k) x y) Q E s:=by
 have key:∀ (i j:Int) (t u:Tok),ordI k i j=some r→wpAny (Cx.M P) A (compareOp (cOf k) (.int i t) (.int j u)) Q E s:=by
  intro i j t u e
  match k,h2,h5,e with
  | 2,_,_,e=>have e:some (ilt i j)=some r:=e; rw [ilt_eq] at e; (obtain rfl:=Option.some.inj e); exact _root_.PySem.P.lt_int q
  | 3,_,_,e=>have e:some (!(ilt j i))=some r:=e; rw [ilt_eq] at e; (obtain rfl:=Option.some.inj e); exact _root_.PySem.P.le_int (by rw [← notlt_le]; exact q)
  | 4,_,_,e=>have e:some (ilt j i)=some r:=e; rw [ilt_eq] at e; (obtain rfl:=Option.some.inj e); exact _root_.PySem.P.gt_int q
  | 5,_,_,e=>have e:some (!(ilt i j))=some r:=e; rw [ilt_eq] at e; (obtain rfl:=Option.some.inj e); exact _root_.PySem.P.ge_int (by show Q (.bool (decide (j≤i))) s; rw [← notlt_le]; exact q)
  | k + 6,_,h5,_=>lia
 induction a using V.casesOn with
 | int i=>
  simp only [RV] at ra
  obtain ⟨t,rfl⟩:=ra
  induction b using V.casesOn with
  | int j=>simp only [RV] at rb; obtain ⟨u,rfl⟩:=rb; exact key i j t u e
  | kd j=>
   simp only [RV] at rb
   obtain ⟨u,rfl⟩:=rb
   have k3:k=3:=by
    rcases (show k=2∨k=3∨k=4∨k=5 by lia) with w | w | w | w
    ·subst w; exact oX e
    ·exact w
    ·subst w; exact oX e
    ·subst w; exact oX e
   subst k3
   have e':(match ilt i 16 with | true=>some true | false=>none)=some r:=e
   ·split at e'
    ·rename_i w
     refine pL fun G0 hG0=>?_
     (obtain rfl:=Option.some.inj e')
     refine hG0 ?_
     refine key i (P.ka j) t u ?_
     rw [ilt_eq,decide_eq_true_iff] at w
     have:=ok.ka0 j
     show some (!(ilt (P.ka j) i))=_
     rw [ilt_eq,decide_eq_false (by lia)]; rfl
    ·exact oX e'
  | _=>exact oX e
 | kd i=>
  simp only [RV] at ra
  obtain ⟨t,rfl⟩:=ra
  induction b using V.casesOn with
  | int j=>
   simp only [RV] at rb
   obtain ⟨u,rfl⟩:=rb
   have k3:k=3:=by
    rcases (show k=2∨k=3∨k=4∨k=5 by lia) with w | w | w | w
    ·subst w; exact oX e
    ·exact w
    ·subst w; exact oX e
    ·subst w; exact oX e
   subst k3
   have e':(match ilt j 16 with | true=>some false | false=>none)=some r:=e
   ·split at e'
    ·rename_i w
     refine pL fun G0 hG0=>?_
     (obtain rfl:=Option.some.inj e')
     refine hG0 ?_
     refine key (P.ka i) j t u ?_
     rw [ilt_eq,decide_eq_true_iff] at w
     have:=ok.ka0 i
     show some (!(ilt j (P.ka i)))=_
     rw [ilt_eq,decide_eq_true (by lia)]; rfl
    ·exact oX e'
  | _=>exact oX e
 | _=>exact oX e
theorem cmp_ok (ok:POk P) (S:St P C W h env s) {K:Frag} (X:K.In s.heap) (G:GOk P K) (hu:A.units + 120 < cLine) (ra:RV P W h.n a x) (rb:RV P W h.n b y) {k:Nat} (hk:k≤9) (e:cmpop h k a b=some r) (Q:Value→Shared→Prop) (q:∀ t,Q (.bool r) { s with toks:=t }) :
  wpAny (Cx.M P) A (compareOp (cOf k) x y) Q E s:=by
 match k,hk,e with
 | 0,_,e=>exact (eqop_ok ok S hu ra rb e).1 Q (q s.toks)
 | 1,_,e=>exact (eqop_ok ok S hu ra rb (oNot_some e)).2 Q (by rw [Bool.not_not]; exact q s.toks)
 | 2,_,e=>exact ord_ok ok S ra rb (by lia) (by lia) e Q (q s.toks)
 | 3,_,e=>exact ord_ok ok S ra rb (by lia) (by lia) e Q (q s.toks)
 | 4,_,e=>exact ord_ok ok S ra rb (by lia) (by lia) e Q (q s.toks)
 | 5,_,e=>exact ord_ok ok S ra rb (by lia) (by lia) e Q (q s.toks)
 | 6,_,e=>exact (inop_ok ok S X G hu ra rb e).1 Q q
 | 7,_,e=>exact (inop_ok ok S X G hu ra rb (oNot_some e)).2 Q fun t=>by rw [Bool.not_not]; exact q t
 | 8,_,e=>exact (isop_ok S ra rb e).1 Q (q s.toks)
 | 9,_,e=>exact (isop_ok S ra rb (oNot_some e)).2 Q (by rw [Bool.not_not]; exact q s.toks)
end
end Mine
namespace Mine
variable {P:Pm} {C:Cx} {W W':Wd} {h h':Hp} {env:List V} {s:Shared} {d n:Nat}
theorem lid_v {b:Bool} {r:R} {x:V} (e:lid b r=.v x h'):b=true∧r=.v x h':=by
 induction b using Bool.casesOn with
 | true=>exact ⟨rfl,e⟩
 | false=>exact rX e
theorem ofO_v {α:Type} {o:Option α} {k:α→R} {x:V} (e:R.ofO o k=.v x h'):∃ a,o=some a∧k a=.v x h':=by
 induction o using Option.casesOn with
 | none=>exact rX e
 | some a=>exact ⟨a,rfl,e⟩
theorem obj_v {v:V} {k:Nat→O→R} {x:V} (e:R.obj h v k=.v x h'):∃ a o,v=.ref a∧h.t.get a=some o∧k a o=.v x h':=by
 induction v using V.casesOn with
 | ref a=>obtain ⟨o,e1,e2⟩:=ofO_v e; exact ⟨a,o,rfl,e1,e2⟩
 | _=>exact rX e
theorem lst_v {v:V} {k:Nat→Nat→Tr V→R} {x:V} (e:lst h v k=.v x h'):∃ a n t,v=.ref a∧h.t.get a=some (.list n t)∧k a n t=.v x h':=by
 refine pL fun G0 hG0=>?_
 obtain ⟨a,o,e1,e2,e3⟩:=obj_v e
 refine hG0 ?_
 induction o using O.casesOn with
 | list n t=>exact ⟨a,n,t,e1,e2,e3⟩
 | _=>exact rX e3
theorem St.raw (S:St P C W h env s) {hp:Heap} {m:Str→Option Value} {a:Addr} {o:Obj} (F:Fr C.h₀ C.L hp m) (Em:EnvR P W h.n C.cl C.names env m) (N:News C.h₀ C.L hp ((a,o)::W.ns)) (f:∀ p∈W.ns,p.1 < a) (t:Nat) :
  St P C ⟨W.si,(a,o)::W.ns⟩ h env { s with heap:=hp,toks:=t }∧Ext W ⟨W.si,(a,o)::W.ns⟩ h h:=by
 obtain ⟨r,x⟩:=S.rel.raw (o:=o) f
 exact ⟨⟨r,⟨m,F,Em.mono x.L⟩,N,S.gens,S.os⟩,x⟩
theorem St.add (S:St P C W h env s) {hp:Heap} {m:Str→Option Value} {a:Addr} {o:Obj} {ob:O} (F:Fr C.h₀ C.L hp m) (Em:EnvR P W h.n C.cl C.names env m) (N:News C.h₀ C.L hp ((a,o)::W.ns)) (f:∀ p∈W.ns,p.1 < a) (hn:h.n < 16000000) (ho:RO P (W.add h.n a o) (h.n + 1) ob a) (t:Nat) :
  St P C (W.add h.n a o) (h.add ob) env { s with heap:=hp,toks:=t }∧Ext W (W.add h.n a o) h (h.add ob):=by
 obtain ⟨r,x⟩:=S.rel.add f hn ho
 exact ⟨⟨r,⟨m,F,Em.mono x.L⟩,N,S.gens,S.os⟩,x⟩
theorem add_si (W:Wd) (n:Nat) (a:Addr) (o:Obj):(W.add n a o).si n=a:=if_pos rfl
theorem newTup (S:St P C W h env s) {A:Around} {E:Value→Shared→Prop} {Q:Value→Shared→Prop} {xs:List V} {ys:List Value} {v:V} (r:RVs P W h.n xs ys) (e:R.newT h xs=.v v h') (g:Go P C W h env h' v Q):wpAny (Cx.M P) A (newTuple ys) Q E s:=by
 refine pL fun G0 hG0=>?_
 obtain ⟨e1,e2⟩:=lid_v e
 (obtain ⟨rfl,rfl⟩:=R.v.inj e2)
 rw [blt_eq,decide_eq_true_iff] at e1
 have hl:=r.len
 obtain ⟨m,F,Em⟩:=S.fr
 refine hG0 ?_
 refine newTuple_N F S.nw (fun hp F' N'=>?_) (by rw [sizeLine_eq]; lia)
 have f:∀ p∈W.ns,p.1 < s.heap.objs.size:=fun p hp=>Heap.lt_size (S.nw p hp).1
 obtain ⟨S',X⟩:=S.raw F' Em N' f s.toks
 exact g _ _ _ X S' (rt_rv (mkT_rt (r.mono X.L)) (.head _))
theorem lid16 {n:Nat} (h:n < 16000000):n + 1 < 2 ^ 24:=Nat.lt_of_le_of_lt (Nat.succ_le_of_lt h) (by decide)
theorem ofLf_lo {α:Type} (l:List α):∀ (i:Nat) (t:Tr α) (j:Nat),i + l.length < 16000000→j < i→(Tr.ofLf l i t).get j=t.get j:=by
 induction l with
 | nil=>exact fun _ _ _ _ _=>rfl
 | cons x l ih=>
  intro i t j hl hj
  rw [List.length_cons,← Nat.add_assoc,Nat.add_right_comm] at hl
  have e:=ih (Nat.succ i) (t.put i x) j hl (Nat.lt_succ_of_lt hj)
  rw [Tr.get_put t x i j (lid16 (Nat.lt_of_le_of_lt (Nat.le_trans (Nat.le_succ i) (Nat.le_add_right _ _)) hl)),if_neg (Nat.ne_of_gt hj)] at e
  exact e
theorem ofLf_hi {α:Type} (l:List α):∀ (i:Nat) (t:Tr α) (k:Nat),i + l.length < 16000000→(Tr.ofLf l i t).get (i + k)=if k < l.length then l[k]? else t.get (i + k):=by
 induction l with
 | nil=>exact fun _ _ k _=>(if_neg (Nat.not_lt_zero k)).symm
 | cons x l ih=>
  intro i t k hl
  rw [List.length_cons,← Nat.add_assoc,Nat.add_right_comm] at hl
  have hi:=lid16 (Nat.lt_of_le_of_lt (Nat.le_trans (Nat.le_succ i) (Nat.le_add_right _ _)) hl)
  show (Tr.ofLf l (Nat.succ i) (t.put i x)).get (i + k)=_
  cases k with
  | zero=>
   exact (ofLf_lo l _ (t.put i x) i hl (Nat.lt_succ_self i)).trans ((Tr.get_put t x i i hi).trans ((if_pos rfl).trans (if_pos (Nat.succ_pos _)).symm))
  | succ k=>
   have e:=ih (Nat.succ i) (t.put i x) k hl
   rw [Nat.succ_add,Tr.get_put t x i _ hi,if_neg (Nat.ne_of_lt (Nat.lt_succ_of_le (Nat.le_add_right i k)))] at e
   refine e.trans ?_
   by_cases q:k < l.length
   ·exact (if_pos q).trans (if_pos (c:=k + 1 < (x::l).length) (Nat.succ_lt_succ q)).symm
   ·exact (if_neg q).trans (if_neg (c:=k + 1 < (x::l).length) fun w=>q (Nat.lt_of_succ_lt_succ w)).symm
theorem ofL_get {α:Type} (l:List α) (j:Nat) (hl:l.length < 16000000):(Tr.ofL l).get j=l[j]?:=by
 have e:=ofLf_hi l 0 .nil j (by rw [Nat.zero_add]; exact hl)
 rw [Nat.zero_add] at e
 refine e.trans ?_
 by_cases q:j < l.length
 ·exact if_pos q
 ·rw [if_neg q,List.getElem?_eq_none (Nat.le_of_not_lt q)]; rfl
theorem mkL_ro {a:Addr} {xs:List V} {ys:List Value} {ep:Nat} (m:(a,listOf ys.toArray ep)∈W.ns) (r:RVs P W n xs ys) (hl:xs.length < 100000):RO P W n (mkL xs) a:=by
 refine ⟨ys.toArray,ep,m,by rw [List.size_toArray]; exact r.len.symm,by lia,fun i v _ e=>?_⟩
 rw [ofL_get _ _ (by lia)] at e
 obtain ⟨y,h1,h2⟩:=r.get e
 exact ⟨y,by simpa using h1,h2⟩
theorem new_v {o:O} {v:V} (e:R.new h o=.v v h'):h.n < 16000000∧v=.ref h.n∧h'=h.add o:=by
 obtain ⟨e1,e2⟩:=lid_v e
 (obtain ⟨rfl,rfl⟩:=R.v.inj e2)
 rw [blt_eq,decide_eq_true_iff] at e1
 exact ⟨e1,rfl,rfl⟩
theorem newL_v {xs:List V} {v:V} (e:R.newL h xs=.v v h'):xs.length < 100000∧h.n < 16000000∧v=.ref h.n∧h'=h.add (mkL xs):=by
 obtain ⟨e1,e2⟩:=lid_v e
 rw [blt_eq,decide_eq_true_iff] at e1
 exact ⟨e1,new_v e2⟩
theorem mkList (S:St P C W h env s) {Q:Value→Shared→Prop} {xs:List V} {ys:List Value} {v:V} (r:RVs P W h.n xs ys) (e:R.newL h xs=.v v h') (g:Go P C W h env h' v Q) :
  ∃ m,Fr C.h₀ C.L s.heap m∧ys.length < 100000∧∀ (hp:Heap) (ep t:Nat),Fr C.h₀ C.L hp m→News C.h₀ C.L hp ((s.heap.objs.size,listOf ys.toArray ep)::W.ns)→Q (.ref s.heap.objs.size) { s with heap:=hp,toks:=t }:=by
 refine pL fun G0 hG0=>?_
 obtain ⟨e1,e2,rfl,rfl⟩:=newL_v e
 have hl:=r.len
 obtain ⟨m,F,Em⟩:=S.fr
 refine hG0 ?_
 refine ⟨m,F,by lia,fun hp ep t F' N'=>?_⟩
 have f:∀ p∈W.ns,p.1 < s.heap.objs.size:=fun p hp=>Heap.lt_size (S.nw p hp).1
 have L:=le_add W h.n s.heap.objs.size (listOf ys.toArray ep)
 obtain ⟨S',X⟩:=S.add (ob:=mkL xs) F' Em N' f e2 (mkL_ro (.head _) (r.mono L) e1) t
 refine g _ _ _ X S' ?_
 simp only [RV]
 exact ⟨Nat.lt_succ_self _,by rw [add_si]⟩
theorem newLst (S:St P C W h env s) {A:Around} {E:Value→Shared→Prop} {Q:Value→Shared→Prop} {xs:List V} {ys:List Value} {v:V} (r:RVs P W h.n xs ys) (e:R.newL h xs=.v v h') (g:Go P C W h env h' v Q):wpAny (Cx.M P) A (newList ys) Q E s:=by
 obtain ⟨m,F,hl,k⟩:=mkList S r e g
 exact newList_N F S.nw (fun hp F' N'=>k hp 0 s.toks F' N') (by rw [sizeLine_eq]; lia)
theorem list_at (S:St P C W h env s) {a k:Nat} {t:Tr V} (e:h.t.get a=some (.list k t)):a < h.n∧∃ its ep,(W.si a,listOf its ep)∈W.ns∧its.size=k∧k≤100000∧∀ i v,i < k→t.get i=some v→∃ x,its[i]?=some x∧RV P W h.n v x:=S.rel.at e
theorem isList_at (S:St P C W h env s) {b:Addr} {its:Array Value} {ep:Nat} (m:(b,listOf its ep)∈W.ns):s.heap.IsList b its:=⟨_,S.nw.get m,rfl,ep,rfl⟩
theorem rv_ref {a:Nat} {y:Value} (r:RV P W n (.ref a) y):a < n∧y=.ref (W.si a):=by simpa only [RV] using r
theorem bin_list (S:St P C W h env s) {A:Around} {E:Value→Shared→Prop} {Q:Value→Shared→Prop} {op a b:Nat} {x y:Value} {v:V} (ra:RV P W h.n (.ref a) x) (rb:RV P W h.n (.ref b) y) (e:binR h op (.ref a) (.ref b)=.v v h') (g:Go P C W h env h' v Q) :
  wpAny (Cx.M P) A (binaryOp (opOf op) x y) Q E s:=by
 match op,e with
 | 0,e=>
  refine pL fun G0 hG0=>?_
  obtain ⟨a',k,t,e1,e2,e3⟩:=lst_v e
  cases e1
  obtain ⟨b',l,u,f1,f2,f3⟩:=lst_v e3
  cases f1
  obtain ⟨xs,g1,g2⟩:=ofO_v f3
  obtain ⟨ys,g3,g4⟩:=ofO_v g2
  obtain ⟨_,rfl⟩:=rv_ref ra
  obtain ⟨_,rfl⟩:=rv_ref rb
  obtain ⟨_,i1,ep1,m1,s1,_,q1⟩:=list_at S e2
  obtain ⟨_,i2,ep2,m2,s2,_,q2⟩:=list_at S f2
  have r1:=list_rvs g1 s1 q1
  have r2:=list_rvs g3 s2 q2
  obtain ⟨m,F,hl,k⟩:=mkList S (r1.app r2) g4 g
  refine hG0 ?_
  have z1:=isList_at S m1
  have z2:=isList_at S m2
  refine add_lists (vs:=i1.toList) (ws:=i2.toList) F S.nw (by simpa using z1) (by simpa using z2) (fun hp F' N'=>k hp 0 s.toks F' N') ?_
  rw [List.length_append] at hl
  rw [sizeLine_eq]; lia
 | k + 1,e=>exact rX e
theorem repL_rvs {xs:List V} {ys:List Value} (r:RVs P W n xs ys):∀ k,RVs P W n (repL k xs) (List.foldl (fun x1 x2=>x1 ++ x2) #[] (List.replicate (if ys.toArray.isEmpty=true then 0 else k) ys.toArray)).toList:=by
 have key:∀ (k:Nat) (acc:Array Value),(List.foldl (fun x1 x2=>x1 ++ x2) acc (List.replicate k ys.toArray)).toList=acc.toList ++ (List.replicate k ys).flatten:=by
  intro k
  induction k with
  | zero=>intro acc; simp
  | succ k ih=>intro acc; rw [List.replicate_succ,List.foldl_cons,ih,List.replicate_succ,List.flatten_cons]; simp
 have rep:∀ k,RVs P W n (repL k xs) (List.replicate k ys).flatten:=by
  intro k
  induction k with
  | zero=>exact .nil
  | succ k ih=>rw [List.replicate_succ,List.flatten_cons]; exact r.app ih
 intro k
 rw [key]
 by_cases q:ys.toArray.isEmpty=true
 ·rw [if_pos q]
  have:ys=[]:=by simpa using q
  subst this
  cases r
  have z:∀ k,repL k ([]:List V)=[]:=by
   intro k
   induction k with
   | zero=>rfl
   | succ k ih=>show [] ++ repL k []=[]; rw [ih]; rfl
  rw [z]; exact .nil
 ·rw [if_neg q]; simpa using rep k
theorem bin_listMul (S:St P C W h env s) {A:Around} {E:Value→Shared→Prop} {Q:Value→Shared→Prop} {op a:Nat} {i:Int} {x y:Value} {v:V} (ra:RV P W h.n (.ref a) x) (rb:RV P W h.n (.int i) y) (e:binM h op (.ref a) i=.v v h') (g:Go P C W h env h' v Q) :
  wpAny (Cx.M P) A (binaryOp (opOf op) x y) Q E s:=by
 match op,e with
 | 2,e=>
  refine pL fun G0 hG0=>?_
  obtain ⟨a',k,t,e1,e2,e3⟩:=lst_v e
  cases e1
  obtain ⟨xs,g1,g2⟩:=ofO_v e3
  refine hG0 ?_
  induction i using Int.casesOn with
  | negSucc j=>exact rX g2
  | ofNat j=>
   refine pL fun G0 hG0=>?_
   obtain ⟨q,g3⟩:=ifT_v g2
   obtain ⟨q1,q2,_⟩:=b3_eq.mp q
   rw [blt_eq,decide_eq_true_iff] at q1 q2
   obtain ⟨_,rfl⟩:=rv_ref ra
   obtain ⟨u,rfl⟩:=rvI rb
   obtain ⟨_,i1,ep1,m1,s1,_,qq⟩:=list_at S e2
   have r1:=list_rvs g1 s1 qq
   have hl:=r1.len
   obtain ⟨m,F,hl',k⟩:=mkList S (repL_rvs r1 j) g3 g
   refine hG0 ?_
   have hx:xs.length=i1.size:=by rw [hl,Array.length_toList]
   refine mul_list F S.nw (S.nw.get m1) (by rw [ofN]; lia) (by rw [ofN]; lia) ?_ (fun hp F' N'=>k hp 0 s.toks F' ?_)
   ·have:i1.size * j≤1000 * 1000:=Nat.mul_le_mul (by lia) (by lia)
    show i1.size * (Int.ofNat j).toNat≤_
    simp only [Int.ofNat_eq_natCast,Int.toNat_natCast]
    lia
   ·simpa using N'
 | 0,e=>exact rX e
 | 1,e=>exact rX e
 | k + 3,e=>exact rX e
end Mine
namespace Mine
variable {P:Pm} {C:Cx} {W W':Wd} {h h':Hp} {env:List V} {s:Shared} {d n:Nat}
theorem nth_get {α:Type}:∀ (l:List α) (i:Nat),nth l i=l[i]?
 | [],i=>rfl
 | x::l,0=>rfl
 | x::l,i + 1=>nth_get l i
theorem idx_some {i:Int} {n k:Nat} (e:idx i n=some k):i=Int.ofNat k∧k < n:=by
 induction i using Int.casesOn with
 | ofNat j=>obtain ⟨e1,e2⟩:=onB_some e; (obtain rfl:=Option.some.inj e2); rw [blt_eq,decide_eq_true_iff] at e1; exact ⟨rfl,e1⟩
 | negSucc j=>exact oX e
theorem intsL_get {xs:List V} {is:List Int} (e:intsL xs=some is):xs=is.map .int:=by
 induction xs generalizing is with
 | nil=>(obtain rfl:=Option.some.inj e); rfl
 | cons x xs ih=>
  induction x using V.casesOn with
  | int i=>
   have e':(match intsL xs with | some r=>some (i::r) | none=>none)=some is:=e
   split at e'
   ·rename_i r hr; (obtain rfl:=Option.some.inj e'); rw [List.map_cons,← ih hr]
   ·exact oX e'
  | _=>exact oX e
section
variable {A:Around} {E:Value→Shared→Prop} {Q:Value→Shared→Prop} {x y:Value} {v:V}
theorem tupIs (S:St P C W h env s) {b:Addr} {ys:List Value} (m:(b,tupO ys)∈W.ns):IsTup s.heap b ys.toArray:=⟨_,S.nw.get m,rfl,0,rfl⟩
theorem getTup (S:St P C W h env s) {b:Addr} {ys:List Value} (m:(b,tupO ys)∈W.ns) {k:Nat} {z:Value} {u:Tok} (hk:k < 100000) (e:ys[k]?=some z) (q:Q z s):wpAny (Cx.M P) A (getItem (.ref b) (.int (Int.ofNat k) u)) Q E s:=by
 have hl:=(List.getElem?_eq_some_iff.mp e).1
 refine PyProof.Rows.getItem_tuple (j:=k) (tupIs S m) (by rw [ofN]; lia) (by rw [ofN]; lia) ?_ (by simpa using e) q
 have h1:(if Int.ofNat k < 0 then Int.ofNat k + (ys.toArray.size:Int) else Int.ofNat k)=(k:Int):=by rw [ofN,if_neg (by lia)]
 show (if 0≤(if Int.ofNat k < 0 then Int.ofNat k + (ys.toArray.size:Int) else Int.ofNat k) && decide ((if Int.ofNat k < 0 then Int.ofNat k + (ys.toArray.size:Int) else Int.ofNat k) < (ys.toArray.size:Int)) then some (if Int.ofNat k < 0 then Int.ofNat k + (ys.toArray.size:Int) else Int.ofNat k).toNat else none)=some k
 rw [h1,List.size_toArray,if_pos (by simp only [Bool.and_eq_true,decide_eq_true_eq]; lia)]
 simp
theorem getT_ok (S:St P C W h env s) {t iv:V} (rt:RV P W h.n t x) (ri:RV P W h.n iv y) (e:getT h t iv=.v v h') (g:Go P C W h env h' v Q):wpAny (Cx.M P) A (getItem x y) Q E s:=by
 obtain ⟨xs,e1,e2⟩:=ofO_v e
 obtain ⟨b,ys,rfl,m,rs,_⟩:=tupL_rv e1 rt
 induction iv using V.casesOn with
 | int i=>
  obtain ⟨q,e3⟩:=ifT_v e2
  rw [blt_eq,decide_eq_true_iff] at q
  obtain ⟨k,k1,k2⟩:=ofO_v e3
  obtain ⟨w,w1,w2⟩:=ofO_v k2
  (obtain ⟨rfl,rfl⟩:=R.v.inj w2)
  obtain ⟨rfl,hk⟩:=idx_some k1
  rw [nth_get] at w1
  obtain ⟨z,z1,z2⟩:=rs.get w1
  obtain ⟨u,rfl⟩:=rvI ri
  exact getTup S m (by lia) z1 (g.now S z2)
 | si se=>
  obtain ⟨u,rfl⟩:=rvS ri
  cases se with
  | r k c m' a b'=>
   induction a using Int.casesOn with
   | negSucc a=>exact rX e2
   | ofNat a=>
    induction b' using Int.casesOn with
    | negSucc b'=>exact rX e2
    | ofNat b'=>
     obtain ⟨q,e3⟩:=ifT_v e2
     obtain ⟨q1,q2,q3⟩:=b3_eq.mp q
     obtain ⟨q4,q5,_⟩:=b3_eq.mp q3
     rw [beqD,decide_eq_true_iff] at q1
     rw [blt_eq,decide_eq_true_iff] at q2 q5
     rw [ble_eq,decide_eq_true_iff] at q4
     have q4:a + m'≤xs.length:=q4
     subst q1
     have hj:=fmod_lt (Int.fdiv (P.io k) c) q2
     have hj0:0≤Int.fmod (Int.fdiv (P.io k) c) m':=by rw [Int.fmod_eq_emod_of_nonneg _ (by lia)]; exact Int.emod_nonneg _ (by omega)
     generalize hf:Int.fmod (Int.fdiv (P.io k) c) m'=f at hj hj0
     have hv:SI.val P (.r k c m' (Int.ofNat a) (Int.ofNat 1))=Int.ofNat (a + f.toNat):=by
      simp only [SI.val]; rw [hf,ofN,ofN,ofN]; omega
     rw [hv]
     have hlt:a + f.toNat < xs.length:=by lia
     obtain ⟨z,z1,z2⟩:=rs.get (List.getElem?_eq_getElem hlt)
     refine getTup S m (by lia) z1 ?_
     split at e3
     ·rename_i q6
      rw [beqD,decide_eq_true_iff] at q6
      subst q6
      split at e3
      ·rename_i is hi
       (obtain ⟨rfl,rfl⟩:=R.v.inj e3)
       refine g.now S ?_
       have z2':=z2
       have hx:=intsL_get hi
       have hl2:f.toNat < is.length:=by rw [hx,List.length_map] at hlt; lia
       have:xs[0 + f.toNat]=V.int (is.getD f.toNat 0):=by
        have h1:xs[0 + f.toNat]?=some (V.int (is.getD f.toNat 0)):=by
         rw [hx,List.getElem?_map,Nat.zero_add,List.getElem?_eq_getElem hl2]
         simp [List.getD,hl2]
        rw [List.getElem?_eq_getElem hlt] at h1
        exact Option.some.inj h1
       rw [this] at z2'
       obtain ⟨t',rfl⟩:=rvI z2'
       simp only [RV,SI.val]
       rw [hf]
       exact ⟨t',rfl⟩
      ·(obtain ⟨rfl,rfl⟩:=R.v.inj e3); exact g.now S (by simp only [RV])
     ·(obtain ⟨rfl,rfl⟩:=R.v.inj e3); exact g.now S (by simp only [RV])
  | _=>exact rX e2
 | _=>exact rX e2
theorem subV_ok (ok:POk P) (S:St P C W h env s) (hu:A.units + 120 < cLine) {o iv:V} (ro:RV P W h.n o x) (ri:RV P W h.n iv y) (e:subV h o iv=.v v h') (g:Go P C W h env h' v Q) :
  wpAny (Cx.M P) A (getItem x y) Q E s∧∃ T id,s.TypeIs x T∧typeLookup (.type T) "__getitem__"=pure (some (.builtin id)):=by
 induction o using V.casesOn with
 | ref a=>
  refine pL fun G0 hG0=>?_
  obtain ⟨ob,e1,e2⟩:=ofO_v e
  obtain ⟨la,rfl⟩:=rv_ref ro
  refine hG0 ?_
  induction ob using O.casesOn with
  | list k t=>
   induction iv using V.casesOn with
   | int i=>
    refine pL fun G0 hG0=>?_
    have e3:(R.ofO (idx i k) fun k'=>R.ofO (t.get k') fun w=>R.v w h)=.v v h':=e2
    obtain ⟨j,j1,j2⟩:=ofO_v e3
    obtain ⟨w,w1,w2⟩:=ofO_v j2
    (obtain ⟨rfl,rfl⟩:=R.v.inj w2)
    obtain ⟨rfl,hj⟩:=idx_some j1
    obtain ⟨_,its,ep,m,hs,hk,q⟩:=list_at S e1
    obtain ⟨z,z1,z2⟩:=q j _ hj w1
    obtain ⟨u,rfl⟩:=rvI ri
    refine hG0 ?_
    have hl:=isList_at S m
    exact ⟨wpAny_getItem_list hl (by rw [ofN]; lia) (by rw [ofN]; lia) (by simpa using z1) (g.now S z2),_,_,hl.typeIs,slot_list_getitem.lookup⟩
   | _=>exact rX e2
  | dict es=>
   refine pL fun G0 hG0=>?_
   have e3:(R.ofO (find iv es) fun q=>R.ofO q fun w=>R.v w h)=.v v h':=e2
   obtain ⟨q,q1,q2⟩:=ofO_v e3
   obtain ⟨w,w1,w2⟩:=ofO_v q2
   (obtain ⟨rfl,rfl⟩:=R.v.inj w2)
   subst w1
   obtain ⟨_,xs',ep,m,D⟩:=S.rel.at e1
   obtain ⟨xs,c,lo,Vw,ov⟩:=dict_view ok S e1 ri q1
   refine hG0 ?_
   generalize hz:valueAt (prj xs) c=oz at ov
   cases ov with
   | some rv=>exact ⟨dv_item Vw (by lia) hz fun t=>g.here S t rv,_,_,⟨_,S.nw.get m,rfl⟩,slot_dict_getitem.lookup⟩
  | _=>exact rX e2
 | tc u w=>
  refine pL fun G0 hG0=>?_
  obtain ⟨xs,e1,e2⟩:=ofO_v e
  obtain ⟨b,ys,rfl,m,rs,_⟩:=tupL_rv e1 ro
  refine hG0 ?_
  exact ⟨getT_ok S ro ri e g,_,_,(tupIs S m).typeIs,slot_tuple_getitem.lookup⟩
 | _=>exact rX e
end
end Mine
namespace Mine
theorem fm_congr {α β:Type} {f g:α→Option β}:∀ {l:List α},(∀ x∈l,f x=g x)→l.filterMap f=l.filterMap g
 | [],_=>rfl
 | x::l,h=>by rw [List.filterMap_cons,List.filterMap_cons,h x (.head _),fm_congr fun y hy=>h y (.tail _ hy)]
theorem lookup_zip:∀ (ns:List Str) (vs:List Value),ns.Nodup→ns.length=vs.length→ns.filterMap (fun n=>((ns.zip vs).lookup n).map (n,·))=ns.zip vs∧∀ n∈ns,((ns.zip vs).lookup n).isSome=true
 | [],[],_,_=>⟨rfl,fun n h=>nomatch h⟩
 | [],_::_,_,e=>nomatch e
 | _::_,[],_,e=>nomatch e
 | n::ns,v::vs,h,e=>by
  rw [List.nodup_cons] at h
  obtain ⟨i1,i2⟩:=lookup_zip ns vs h.2 (by simpa using e)
  constructor
  ·rw [List.zip_cons_cons,List.filterMap_cons]
   rw [List.lookup_cons_self]
   simp only [Option.map_some]
   congr 1
   rw [← i1]
   refine fm_congr fun x hx=>?_
   have hne:(x == n)=false:=beq_eq_false_iff_ne.mpr fun q=>h.1 (q▸hx)
   rw [List.lookup_cons,hne]
   simp only [i1]
  ·intro x hx
   rw [List.zip_cons_cons,List.lookup_cons]
   by_cases q:(x == n)=true
   ·rw [q]; rfl
   ·rw [Bool.not_eq_true] at q
    rw [q]
    rcases List.mem_cons.mp hx with rfl | hx
    ·simp at q
    ·exact i2 x hx
theorem bind_simple {fd:FuncData} {as:List Arg} {vs:List Value} (hp:fd.params=⟨[],as,none,[],[],none,[]⟩) (hd:fd.defaults=.none) (hl:as.length=vs.length) (hn:(as.map (·.arg)).Nodup) :
  bindArgs fd ⟨vs,[]⟩=pure ((as.map (·.arg)).zip vs):=by
 obtain ⟨i1,i2⟩:=lookup_zip (as.map (·.arg)) vs hn (by simpa using hl)
 have miss:(as.map (·.arg)).filter (fun n=>(((as.map (·.arg)).zip vs).lookup n).isNone)=[]:=by
  rw [List.filter_eq_nil_iff]
  intro n hn' q
  have:=i2 n hn'
  induction z:((as.map (·.arg)).zip vs).lookup n using Option.casesOn with
  | none=>rw [z] at this; exact bX this
  | some v=>rw [z] at q; exact bX q
 obtain ⟨nm,q,prm,bd,sc,gl,cl,dv,kd,dc,pm,an,cd,ct,bi⟩:=fd
 have hp:prm=_:=hp
 have hd:dv=_:=hd
 subst hp hd
 have e1:¬ (decide (vs.length > ([] ++ as.map fun x:Arg=>x.arg).length) && true)=true:=by simp [hl]
 refine Eq.trans (b:=ite ((decide (vs.length > ([] ++ as.map fun x:Arg=>x.arg).length) && true)=true) _ _) (by with_unfolding_all rfl) ((if_neg e1).trans ?_)
 generalize hD:List.drop _ _=D
 have hD:D=[]:=hD.symm.trans List.drop_nil
 subst hD
 have e2:(!(List.filter (fun n=>(List.lookup n (([] ++ as.map fun x:Arg=>x.arg).zip vs)).isNone) (List.take (([] ++ as.map fun x:Arg=>x.arg).length - 0) ([] ++ as.map fun x:Arg=>x.arg))).isEmpty)=false:=by
  simp only [List.nil_append,Nat.sub_zero,List.take_length,miss]; decide
 have e3:List.drop (([] ++ as.map fun x:Arg=>x.arg).length - 0) ([] ++ as.map fun x:Arg=>x.arg)=[]:=by simp only [List.nil_append,Nat.sub_zero,List.drop_length]
 generalize hM:(!(List.filter _ _).isEmpty)=M
 have hM:M=false:=hM.symm.trans e2
 subst hM
 generalize hE:List.drop _ _=D
 have hE:D=[]:=hE.symm.trans e3
 subst hE
 have i3:List.filterMap (fun n=>Option.map (fun x=>(n,x)) (List.lookup n ((as.map fun x:Arg=>x.arg).zip vs))) (([] ++ as.map fun x:Arg=>x.arg) ++ [])=(as.map fun x:Arg=>x.arg).zip vs:=by rw [List.append_nil]; exact i1
 exact congrArg (fun l=>(pure l:Sem (List (Str×Value)))) i3
end Mine
namespace Mine
variable {P:Pm} {C:Cx} {W W':Wd} {h h':Hp} {env:List V} {s:Shared} {d n:Nat}
noncomputable def Out (P:Pm) (C:Cx) (W:Wd) (h:Hp) (Q:Flow→Shared→Prop):R→Prop
 | .nx env' h'=>∀ W' s',Ext W W' h h'→St P C W' h' env' s'→Q .next s'
 | .rt v h'=>∀ W' s' y,Ext W W' h h'→St P C W' h' [] s'→RV P W' h'.n v y→Q (.ret y) s'
 | .v _ _=>False
 | .vs _ _=>False
 | .no=>False
noncomputable def SndS (P:Pm) (C:Cx) (f:List V→Hp→R) (st:Stmt):Prop:=∀ W h env s Q E,St P C W h env s→Out P C W h Q (f env h)→wpAny (Cx.M P) C.A (exec st C.env) Q E s
noncomputable def SndSs (P:Pm) (C:Cx) (f:List V→Hp→R) (sts:List Stmt):Prop:=∀ W h env s Q E,St P C W h env s→Out P C W h Q (f env h)→wpAny (Cx.M P) C.A (execs sts C.env) Q E s
noncomputable def SndE (P:Pm) (C:Cx) (f:List V→Hp→R) (e:Expr):Prop:=∀ W h env s v h' Q E,St P C W h env s→f env h=.v v h'→Go P C W h env h' v Q→wpAny (Cx.M P) C.A (eval e C.env) Q E s
noncomputable def FVal (P:Pm) (f:V) (y:Value):Prop:=match f with
 | .glb g=>y=P.gv g
 | .kd f=>y=.ref (P.fa f)
 | _=>False
noncomputable def Ret (Q:Value→Shared→Prop) (E:Value→Shared→Prop) (r:Result) (s':Shared):Prop:=match r with
 | .ok (.ret v)=>Q v s'
 | .ok _=>False
 | .error e=>E e s'
noncomputable def SndCF (P:Pm) (d:Nat) (cf:CF):Prop:=
 (∀ (C:Cx),C.Ok P d→∀ W h env s g args vs v h' Q E,St P C W h env s→RVs P W h.n args vs→cf (.glb g) args h=.v v h'→Go P C W h env h' v Q→wpAny (Cx.M P) C.A (call (P.gv g) vs) Q E s)∧
 (∀ (C:Cx),C.Ok P d→∀ W h env s f args vs v h' Q E,St P C W h env s→RVs P W h.n args vs→cf (.kd f) args h=.v v h'→Go P C W h env h' v Q→codeAny (Cx.M P) C.A (.call (.ref (P.fa f)) ⟨vs,[]⟩) (Ret Q E) s)
theorem call_of_code {P:Pm} {A:Around} {a:Addr} {vs:List Value} {Q:Value→Shared→Prop} {E:Value→Shared→Prop} {s:Shared} (k:codeAny (Cx.M P) A (.call (.ref a) ⟨vs,[]⟩) (Ret Q E) s):wpAny (Cx.M P) A (call (.ref a) vs) Q E s:=by
 refine wpAny_call (codeAny_mono k fun r s' z=>?_)
 rcases r with e | (v | _ | _ | _) <;> exact z
inductive FnOk (P:Pm) (mm:List Str→Scope→X→List Stmt→Prop) (a:Addr) (fn:F):Prop
 | mk (oc:Value) (od:Option Addr) (osl:Array (Option Value)) (name qual:Str) (as:List Arg) (body:List Stmt) (scope:Scope) (kV doc pm:Value) (an:Option Addr) (cdv ct:Value) (names:List Str) :
  P.K.lookup a=some ⟨oc,od,.func (fnOf name qual ⟨[],as,none,[],[],none,[]⟩ body scope .none kV doc pm an cdv ct),osl⟩→codeIn P.K cdv qual=true→
  as.length=fn.np→names.take fn.np=as.map (·.arg)→names.length≤fn.nl→fn.np≤fn.nl→names.Nodup→(∀ x∈names,scope.names.lookup x=some .local)→(∀ x∈names,(x == ("__debug__":Str))=false)→
  scope.isCoroutine=false→scope.isGenerator=false→scope.kind=.function→(∀ x∈scope.names,x.2≠.cell)→mm names scope fn.body body→FnOk P mm a fn
theorem lookup_rev:∀ (ns:List Str) (vs:List Value),ns.Nodup→ns.length=vs.length→∀ (i:Nat) (x:Str) (v:Value),ns[i]?=some x→vs[i]?=some v→(ns.zip vs).reverse.lookup x=some v:=by
 intro ns vs hn hl i x v h1 h2
 have hm:(x,v)∈(ns.zip vs).reverse:=by
  rw [List.mem_reverse]
  refine List.mem_of_getElem? (i:=i) ?_
  rw [List.getElem?_zip_eq_some]
  exact ⟨h1,h2⟩
 have hk:((ns.zip vs).reverse.map (·.1)).Nodup:=by
  rw [List.map_reverse,List.map_fst_zip (by lia)]; exact List.pairwise_reverse.mpr (hn.imp fun q=>Ne.symm q)
 revert hm hk
 generalize (ns.zip vs).reverse=l
 intro hm hk
 induction l with
 | nil=>cases hm
 | cons p l ih=>
  obtain ⟨a,b⟩:=p
  rw [List.map_cons,List.nodup_cons] at hk
  rw [List.lookup_cons]
  rcases List.mem_cons.mp hm with e | hm
  ·cases e; rw [beq_self_eq_true]
  ·have:(x == a)=false:=beq_eq_false_iff_ne.mpr fun e=>hk.1 (e▸List.mem_map.mpr ⟨_,hm,rfl⟩)
   rw [this]; exact ih hm hk.2
theorem padN_get:∀ (n i:Nat) (v:V),(padN n)[i]?=some v→v=.ub
 | 0,i,v,e=>by cases i <;> exact oX e
 | n + 1,0,v,e=>by (obtain rfl:=Option.some.inj e); rfl
 | n + 1,i + 1,v,e=>padN_get n i v e
theorem in_keeps {K:Frag} {h h':Heap} (X:K.In h) (k:∀ b o,h.get? b=some o→h'.get? b=some o):K.In h':=fun a o e=>k _ _ (X a o e)
theorem enter_ok {mm:List Str→Scope→X→List Stmt→Prop} {ih:CF} (body:∀ (C:Cx),C.Ok P d→∀ (names:List Str) (b:X) (sts:List Stmt),C.names=names→mm names C.cs b sts→SndSs P C (sem b ih .none) sts)
  (ok:C.Ok P (d + 1)) {a:Addr} {fn:F} (fo:FnOk P mm a fn) {args:List V} {vs:List Value} {v:V} {Q:Value→Shared→Prop} {E:Value→Shared→Prop} (S:St P C W h env s) (ra:RVs P W h.n args vs) (e:enter ih args h fn=.v v h') (g:Go P C W h env h' v Q) :
  codeAny (Cx.M P) C.A (.call (.ref a) ⟨vs,[]⟩) (Ret Q E) s:=by
 refine pL fun G0 hG0=>?_
 obtain ⟨oc,od,osl,name,qual,as,bd,scope,kV,doc,pm,an,cdv,ct,names,hK,hcd,hnp,htk,hnl,hle,hnd,hloc,hdbg,hco,hgen,hkind,hcell,hmm⟩:=fo
 refine hG0 ?_
 have hl:args.length=fn.np:=by
  unfold enter at e
  split at e
  ·rename_i q; rw [beqD,decide_eq_true_iff] at q; exact q
  ·exact rX e
 have e':fin (sem fn.body ih .none (args ++ padN (Nat.sub fn.nl fn.np)) h)=.v v h':=by
  unfold enter at e
  rw [beqD,decide_eq_true hl] at e
  exact e
 have hlv:=ra.len
 obtain ⟨m,F,Em⟩:=S.fr
 have X:=in_keeps ok.x F.keep
 have hlas:as.length=vs.length:=by lia
 have hnd':(as.map (·.arg)).Nodup:=by rw [← htk]; exact hnd.sublist (List.take_sublist _ _)
 refine callX_plain (cl:=[]) (binds:=(as.map (·.arg)).zip vs) ok.below F S.nw ok.t.nolimit ok.frames rfl ok.kind (X _ _ hK) rfl (codeRec_of X hcd) (by have:=ok.depth; show C.A.depth < 1000; lia) (BindsTo.of_eq (bind_simple rfl rfl hlas hnd')) ?_ ?_ hcell hco hgen hkind
 ·intro y hy
  have:y.1∈as.map (·.arg):=by
   have:=List.of_mem_zip (show (y.1,y.2)∈_ from hy)
   exact this.1
  rw [← htk] at this
  exact hloc _ (List.mem_of_mem_take this)
 ·intro g' L' h₁ Fg F' N' B' stay _
  let C':Cx:={ loose:=C.loose,mg:=C.mg,mb:=C.mb,base:=C.base,h₀:=g',outer:=C.env::C.outer,A₀:=C.A,A:=C.A.deeper (envOf qual scope L' a cdv),L:=L',a:=a,cn:=qual,cs:=scope,ccd:=cdv,names:=names,cl:=[],gens:=C.gens,os:=C.os }
  have ok':C'.Ok P d:=by
   refine ⟨ok.pok,B',Around.frames_deeper ok.frames,in_keeps ok.x stay,ok.t.keeps stay,?_,?_,ok.handled,hkind,hnd,fun x hx _=>hloc x hx,fun x c e=>(nomatch e),hdbg⟩
   ·have:=ok.depth; show C.A.depth + 1 + 3 * d≤900; lia
   ·have:=ok.units; show C.A.units + 3 + 8 * d≤9000; lia
  have S':St P C' W h (args ++ padN (Nat.sub fn.nl fn.np)) { s with heap:=h₁,toks:=s.toks + ((as.map (·.arg)).zip vs).length }:=by
   refine ⟨S.rel,⟨_,F',fun i x v h1 h2 h3=>?_⟩,N',S.gens,S.os⟩
   have h1:names[i]?=some x:=h1
   by_cases q:i < args.length
   ·rw [List.getElem?_append_left q] at h2
    obtain ⟨y,y1,y2⟩:=ra.get h2
    refine ⟨y,.inl ⟨rfl,lookup_rev _ vs hnd' (by simp [hlas]) i x y ?_ y1⟩,y2⟩
    rw [← htk,List.getElem?_take,if_pos (by lia)]; exact h1
   ·rw [List.getElem?_append_right (by lia)] at h2
    exact absurd (padN_get _ _ _ h2) h3
  refine wpAny_mono (body C' ok' names fn.body bd rfl hmm W h _ _ (fun fl s'=>LeaveK C.h₀ C.L m g' (Ret Q E) (match fl with | .ret v=>v | _=>.none) s') (fun _ _=>False) S' ?_) (fun fl s' z=>?_) (fun _ _ z=>z.elim)
  ·have leave:∀ (W':Wd) (h'':Hp) (s':Shared) (env':List V) (w:V) (y:Value),R.v w h''=.v v h'→Ext W W' h h''→St P C' W' h'' env' s'→RV P W' h''.n w y→
     LeaveK C.h₀ C.L m g' (Ret Q E) y s':=by
    intro W' h'' s' env' w y q Xe Sx rv
    refine pL fun G0 hG0=>?_
    (obtain ⟨rfl,rfl⟩:=R.v.inj q)
    obtain ⟨m',F'',_⟩:=Sx.fr
    refine hG0 ?_
    exact ⟨L',m',W'.ns,F'',Sx.nw,fun Fb Nb=>g W' s' y Xe ⟨Sx.rel,⟨m,Fb,Em.mono Xe.L⟩,Nb,Sx.gens,Sx.os⟩ rv⟩
   generalize sem fn.body ih .none (args ++ padN (Nat.sub fn.nl fn.np)) h=r at e'
   induction r using R.casesOn with
   | nx env' h''=>intro W' s' Xe Sx; exact leave W' h'' s' _ .none _ e' Xe Sx (by simp only [RV])
   | rt w h''=>intro W' s' y Xe Sx rv; exact leave W' h'' s' _ w _ e' Xe Sx rv
   | v _ _=>exact rX e'
   | vs _ _=>exact rX e'
   | no=>exact rX e'
  ·exact z
end Mine
namespace Mine
variable {P:Pm} {C:Cx} {W W':Wd} {h h':Hp} {env:List V} {s:Shared} {d n:Nat}
theorem bv_v {r:R} {k:V→Hp→R} {v:V} (e:R.bv r k=.v v h'):∃ x h1,r=.v x h1∧k x h1=.v v h':=by
 induction r using R.casesOn with
 | v x h1=>exact ⟨x,h1,rfl,e⟩
 | _=>exact rX e
theorem bvs_v {r:R} {k:List V→Hp→R} {v:V} (e:R.bvs r k=.v v h'):∃ x h1,r=.vs x h1∧k x h1=.v v h':=by
 induction r using R.casesOn with
 | vs x h1=>exact ⟨x,h1,rfl,e⟩
 | _=>exact rX e
theorem bv_vs {r:R} {k:V→Hp→R} {v:List V} (e:R.bv r k=.vs v h'):∃ x h1,r=.v x h1∧k x h1=.vs v h':=by
 induction r using R.casesOn with
 | v x h1=>exact ⟨x,h1,rfl,e⟩
 | _=>exact rX e
theorem bvs_vs {r:R} {k:List V→Hp→R} {v:List V} (e:R.bvs r k=.vs v h'):∃ x h1,r=.vs x h1∧k x h1=.vs v h':=by
 induction r using R.casesOn with
 | vs x h1=>exact ⟨x,h1,rfl,e⟩
 | _=>exact rX e
theorem ofB_v {o:Option Bool} {v:V} (e:ofB h o=.v v h'):∃ b,o=some b∧v=.bool b∧h'=h:=by
 induction o using Option.casesOn with
 | some b=>(obtain ⟨rfl,rfl⟩:=R.v.inj e); exact ⟨b,rfl,rfl,rfl⟩
 | none=>exact rX e
theorem Go.step {v:V} {W1:Wd} {h1:Hp} {Q:Value→Shared→Prop} (g:Go P C W h env h' v Q) (X:Ext W W1 h h1) (r:Rel P W1 h1):Go P C W1 h1 env h' v Q:=fun W' s' y X' S' rv=>g W' s' y (X.trans X' r) S' rv
theorem Out.step {W1:Wd} {h1:Hp} {Q:Flow→Shared→Prop} {r:R} (o:Out P C W h Q r) (X:Ext W W1 h h1) (rel:Rel P W1 h1):Out P C W1 h1 Q r:=by
 induction r using R.casesOn with
 | nx env' h'=>exact fun W' s' X' S'=>o W' s' (X.trans X' rel) S'
 | rt v h'=>exact fun W' s' y X' S' rv=>o W' s' y (X.trans X' rel) S' rv
 | _=>exact o
noncomputable def SndB (P:Pm) (C:Cx) (f:List V→Hp→R) (e:Expr):Prop:=∀ W h env s b h' Q E,St P C W h env s→f env h=.v (.bool b) h'→(∀ W' s',Ext W W' h h'→St P C W' h' env s'→Q b s')→wpAny (Cx.M P) C.A (PySem.isTrue e C.env (eval e C.env)) Q E s
noncomputable def SndEs (P:Pm) (C:Cx) (f:List V→Hp→R) (es:List Expr):Prop:=∀ W h env s vs h' (pos:Pos) Q E,St P C W h env s→f env h=.vs vs h'→
 (∀ W' s' ys,Ext W W' h h'→St P C W' h' env s'→RVs P W' h'.n vs ys→Q ys s')→wpAny (Cx.M P) C.A (spliced (backTo pos (starEach es C.env))) Q E s
noncomputable def SndT (P:Pm) (C:Cx) (f:V→List V→Hp→R) (t:Expr):Prop:=∀ W h env s z y env' h' Q E,St P C W h env s→RV P W h.n z y→f z env h=.nx env' h'→(∀ W' s',Ext W W' h h'→St P C W' h' env' s'→Q () s')→wpAny (Cx.M P) C.A (assign t C.env y) Q E s
section
variable {cf:CF} {z:V}
theorem rule_none {k:Nat} {pos:Pos}:SndE P C (fun env h=>cV .none cf z env h) (.Constant .none k pos):=by
 intro W h env s v h' Q E S e g
 refine pL fun G0 hG0=>?_
 (obtain ⟨rfl,rfl⟩:=R.v.inj e)
 refine hG0 ?_
 exact PyProof.Rows.Constant_none (g.now S (by simp only [RV]))
theorem rule_bool {b:Bool} {k:Nat} {pos:Pos}:SndE P C (fun env h=>cV (.bool b) cf z env h) (.Constant (.bool b) k pos):=by
 intro W h env s v h' Q E S e g
 refine pL fun G0 hG0=>?_
 (obtain ⟨rfl,rfl⟩:=R.v.inj e)
 refine hG0 ?_
 exact PyProof.Rows.Constant_bool (g.now S (by simp only [RV]))
theorem rule_int {i:Int} {k:Nat} {pos:Pos}:SndE P C (fun env h=>cV (.int i) cf z env h) (.Constant (.int i) k pos):=by
 intro W h env s v h' Q E S e g
 refine pL fun G0 hG0=>?_
 (obtain ⟨rfl,rfl⟩:=R.v.inj e)
 refine hG0 ?_
 exact wpAny_Constant_int (g.here S _ (rvMk _))
theorem rule_str {i k:Nat} {pos:Pos}:SndE P C (fun env h=>cV (.str i) cf z env h) (.Constant (.str (P.nm i)) k pos):=by
 intro W h env s v h' Q E S e g
 refine pL fun G0 hG0=>?_
 (obtain ⟨rfl,rfl⟩:=R.v.inj e)
 refine hG0 ?_
 exact wpAny_Constant_str (g.here S _ (by simp only [RV]; exact ⟨_,rfl⟩))
theorem kindOf_env {x:Str}:C.env.kindOf x=C.cs.names.lookup x:=rfl
theorem loc_v {i:Nat} {k:V→R} {v:V} (e:loc env i k=.v v h'):∃ w,env[i]?=some w∧w≠.ub∧k w=.v v h':=by
 obtain ⟨w,e1,e2⟩:=ofO_v e
 rw [nth_get] at e1
 cases w with
 | ub=>exact rX e2
 | _=>exact ⟨_,e1,(fun q=>nomatch q),e2⟩
theorem rule_loc (ok:C.Ok P d) {i:Nat} {x:Str} {pos:Pos} (hx:C.names[i]?=some x):SndE P C (fun env h=>cLoc i cf z env h) (.Name x pos):=by
 intro W h env s v h' Q E S e g
 refine pL fun G0 hG0=>?_
 obtain ⟨w,e1,e2,e3⟩:=loc_v e
 (obtain ⟨rfl,rfl⟩:=R.v.inj e3)
 obtain ⟨m,F,Em⟩:=S.fr
 obtain ⟨y,y1,y2⟩:=Em i x _ hx e1 e2
 refine hG0 ?_
 have hm:=List.mem_of_getElem? hx
 rcases y1 with ⟨c1,y1⟩ | ⟨c,o,c1,c2,c3⟩
 ·exact nameX_L F y1 (g.now S y2) ok.kind (ok.loc x hm c1) (ok.dbg x hm)
 ·exact nameX_C S.nw c1 c2 c3 (g.now S y2) ok.kind (ok.cel x c c1) (ok.dbg x hm)
theorem rule_bin {op:Nat} {a b:U} {ea eb:Expr} {pos:Pos} (Sa:SndE P C (fun env h=>a cf z env h) ea) (Sb:SndE P C (fun env h=>b cf z env h) eb)
  (bin:∀ W h env s (x y:V) (u w:Value) v h' Q E,St P C W h env s→RV P W h.n x u→RV P W h.n y w→binop h op x y=.v v h'→Go P C W h env h' v Q→wpAny (Cx.M P) C.A (binaryOp (opOf op) u w) Q E s) :
  SndE P C (fun env h=>cBin op a b cf z env h) (.BinOp ea (opOf op) eb pos):=by
 intro W h env s v h' Q E S e g
 refine pL fun G0 hG0=>?_
 obtain ⟨x,h1,e1,e2⟩:=bv_v e
 obtain ⟨y,h2,e3,e4⟩:=bv_v e2
 refine hG0 ?_
 refine wpAny_BinOp (Sa W h env s x h1 _ E S e1 fun W1 s1 u X1 S1 r1=>?_)
 refine Sb W1 h1 env s1 y h2 _ E S1 e3 fun W2 s2 w X2 S2 r2=>?_
 exact bin W2 h2 env s2 x y u w v h' Q E S2 (r1.mono X2.L) r2 e4 (g.step (X1.trans X2 S1.rel) S2.rel)
theorem rule_cmp (ok:C.Ok P d) (G:GOk P P.K) {op:Nat} (hop:op≤9) {a b:U} {ea eb:Expr} {pos:Pos} (hm:behindInMarks (cOf op) eb=false) (Sa:SndE P C (fun env h=>a cf z env h) ea) (Sb:SndE P C (fun env h=>b cf z env h) eb) :
  SndE P C (fun env h=>cCmp op a b cf z env h) (.Compare ea [cOf op] [eb] pos)∧SndB P C (fun env h=>cCmp op a b cf z env h) (.Compare ea [cOf op] [eb] pos):=by
 have hu:C.A.units + 120 < cLine:=by have:=ok.units; show C.A.units + 120 < 9900; lia
 constructor
 ·intro W h env s v h' Q E S e g
  refine pL fun G0 hG0=>?_
  obtain ⟨x,h1,e1,e2⟩:=bv_v e
  obtain ⟨y,h2,e3,e4⟩:=bv_v e2
  obtain ⟨r,e5,rfl,rfl⟩:=ofB_v e4
  refine hG0 ?_
  refine wpAny_Compare1 (Sa W h env s x h1 _ E S e1 fun W1 s1 u X1 S1 r1=>?_) hm
  refine Sb W1 h1 env s1 y _ _ E S1 e3 fun W2 s2 w X2 S2 r2=>?_
  obtain ⟨m,F,_⟩:=S2.fr
  exact cmp_ok ok.pok S2 (in_keeps ok.x F.keep) G hu (r1.mono X2.L) r2 hop e5 Q fun t=>g W2 _ _ (X1.trans X2 S1.rel) (S2.tok t) (by simp only [RV])
 ·intro W h env s c h' Q E S e g
  refine pL fun G0 hG0=>?_
  obtain ⟨x,h1,e1,e2⟩:=bv_v e
  obtain ⟨y,h2,e3,e4⟩:=bv_v e2
  obtain ⟨r,e5,e6,rfl⟩:=ofB_v e4
  cases e6
  refine hG0 ?_
  refine wpAny_isTrue_Compare1 (Sa W h env s x h1 _ E S e1 fun W1 s1 u X1 S1 r1=>?_) hm
  refine Sb W1 h1 env s1 y _ _ E S1 e3 fun W2 s2 w X2 S2 r2=>?_
  obtain ⟨m,F,_⟩:=S2.fr
  exact cmp_ok ok.pok S2 (in_keeps ok.x F.keep) G hu (r1.mono X2.L) r2 hop e5 _ fun t=>wpAny_truthy_bool (g W2 _ (X1.trans X2 S1.rel) (S2.tok t))
theorem snd_plain {f:List V→Hp→R} {e:Expr} (Se:SndE P C f e) (he:∀ whole,PySem.isTrue e C.env whole=(do let v ← whole; standAt e.pos; holding [v] (PySem.truthy v))):SndB P C f e:=by
 intro W h env s b h' Q E S e1 g
 refine PyProof.Rows.isTrue_plain (Se W h env s _ h' _ E S e1 fun W' s' y X S' r=>?_) (he _)
 simp only [RV] at r
 subst r
 exact wpAny_truthy_bool (g W' s' X S')
theorem ifB_v {o:Option Bool} {a b:R} {v:V} (e:ifB o a b=.v v h'):(o=some true∧a=.v v h')∨(o=some false∧b=.v v h'):=by
 induction o using Option.casesOn with
 | none=>exact rX e
 | some c=>cases c with
  | true=>exact .inl ⟨rfl,e⟩
  | false=>exact .inr ⟨rfl,e⟩
theorem tru {v:V} {b:Bool} (e:truthy h v=some b):v=.bool b:=by
 induction v using V.casesOn with
 | bool c=>(obtain rfl:=Option.some.inj e); rfl
 | _=>exact oX e
theorem rule_ite {c a b:U} {ec ea eb:Expr} {pos:Pos} (Sc:SndB P C (fun env h=>c cf z env h) ec) (Sa:SndE P C (fun env h=>a cf z env h) ea) (Sb:SndE P C (fun env h=>b cf z env h) eb) :
  SndE P C (fun env h=>cIte c a b cf z env h) (.IfExp ec ea eb pos):=by
 intro W h env s v h' Q E S e g
 refine pL fun G0 hG0=>?_
 obtain ⟨x,h1,e1,e2⟩:=bv_v e
 refine hG0 ?_
 rcases ifB_v e2 with ⟨t,e3⟩ | ⟨t,e3⟩
 ·cases tru t
  exact IfExp_ (Sc W h env s true h1 (fun c s₂=>if c then wpAny (Cx.M P) C.A (eval ea C.env) Q E s₂ else wpAny (Cx.M P) C.A (eval eb C.env) Q E s₂) E S e1 fun W1 s1 X1 S1=>Sa W1 h1 env s1 v h' Q E S1 e3 (g.step X1 S1.rel))
 ·cases tru t
  exact IfExp_ (Sc W h env s false h1 (fun c s₂=>if c then wpAny (Cx.M P) C.A (eval ea C.env) Q E s₂ else wpAny (Cx.M P) C.A (eval eb C.env) Q E s₂) E S e1 fun W1 s1 X1 S1=>Sb W1 h1 env s1 v h' Q E S1 e3 (g.step X1 S1.rel))
theorem rule_not {a:U} {ea:Expr} {pos:Pos} (Sa:SndE P C (fun env h=>a cf z env h) ea) (Sb:SndB P C (fun env h=>a cf z env h) ea) :
  SndE P C (fun env h=>cNot a cf z env h) (.UnaryOp .Not ea pos)∧SndB P C (fun env h=>cNot a cf z env h) (.UnaryOp .Not ea pos):=by
 constructor
 ·intro W h env s v h' Q E S e g
  refine pL fun G0 hG0=>?_
  obtain ⟨x,h1,e1,e2⟩:=bv_v e
  obtain ⟨b,e3,e4⟩:=ofO_v e2
  (obtain ⟨rfl,rfl⟩:=R.v.inj e4)
  refine hG0 ?_
  cases tru e3
  refine UnaryOp_ (Sa W h env s _ _ _ E S e1 fun W1 s1 u X1 S1 r1=>?_)
  simp only [RV] at r1
  subst r1
  exact not_of (wpAny_truthy_bool (g W1 s1 _ X1 S1 (by simp only [RV])))
 ·intro W h env s b h' Q E S e g
  refine pL fun G0 hG0=>?_
  obtain ⟨x,h1,e1,e2⟩:=bv_v e
  obtain ⟨c,e3,e4⟩:=ofO_v e2
  cases e4
  refine hG0 ?_
  cases tru e3
  exact isTrue_not (Sb W h env s _ _ _ E S e1 fun W1 s1 X1 S1=>g W1 s1 X1 S1)
theorem rule_neg {a:U} {ea:Expr} {pos:Pos} (Sa:SndE P C (fun env h=>a cf z env h) ea):SndE P C (fun env h=>cNeg a cf z env h) (.UnaryOp .USub ea pos):=by
 intro W h env s v h' Q E S e g
 refine pL fun G0 hG0=>?_
 obtain ⟨x,h1,e1,e2⟩:=bv_v e
 refine hG0 ?_
 refine UnaryOp_ (Sa W h env s _ _ _ E S e1 fun W1 s1 u X1 S1 r1=>?_)
 induction x using V.casesOn with
 | int i=>
  (obtain ⟨rfl,rfl⟩:=R.v.inj e2)
  obtain ⟨t,rfl⟩:=rvI r1
  exact _root_.PySem.P.neg_int (g W1 _ _ X1 (S1.tok _) (rvMk _))
 | _=>exact rX e2
theorem rule_nil:SndEs P C (fun env h=>cNil cf z env h) []:=by
 intro W h env s vs h' pos Q E S e g
 (obtain ⟨rfl,rfl⟩:=R.vs.inj e)
 exact args_nil (g W s [] (Ext.refl W h) S .nil)
theorem rule_cons {a r:U} {e:Expr} {es:List Expr} (he:starEach (e::es) C.env=(false,eval e C.env)::starEach es C.env) (Sa:SndE P C (fun env h=>a cf z env h) e) (Sr:SndEs P C (fun env h=>r cf z env h) es):SndEs P C (fun env h=>cCons a r cf z env h) (e::es):=by
 intro W h env s vs h' pos Q E S e1 g
 refine pL fun G0 hG0=>?_
 obtain ⟨x,h1,e2,e3⟩:=bv_vs e1
 obtain ⟨ys,h2,e4,e5⟩:=bvs_vs e3
 (obtain ⟨rfl,rfl⟩:=R.vs.inj e5)
 refine hG0 ?_
 refine args_cons (Sa W h env s x h1 _ E S e2 fun W1 s1 u X1 S1 r1=>?_) he
 exact Sr W1 h1 env s1 ys _ pos _ E S1 e4 fun W2 s2 us X2 S2 r2=>g W2 s2 _ (X1.trans X2 S1.rel) S2 (.cons (r1.mono X2.L) r2)
theorem rule_tup {a:U} {es:List Expr} {k:Nat} {pos:Pos} (Sa:SndEs P C (fun env h=>a cf z env h) es):SndE P C (fun env h=>cTup a cf z env h) (.Tuple es k pos):=by
 intro W h env s v h' Q E S e g
 refine pL fun G0 hG0=>?_
 obtain ⟨xs,h1,e1,e2⟩:=bvs_v e
 refine hG0 ?_
 exact Tuple_ (Sa W h env s xs h1 pos _ E S e1 fun W1 s1 ys X1 S1 r1=>newTup S1 r1 e2 (g.step X1 S1.rel))
theorem rule_lst {a:U} {es:List Expr} {pos:Pos} (Sa:SndEs P C (fun env h=>a cf z env h) es):SndE P C (fun env h=>cLst a cf z env h) (.List es pos):=by
 intro W h env s v h' Q E S e g
 refine pL fun G0 hG0=>?_
 obtain ⟨xs,h1,e1,e2⟩:=bvs_v e
 refine hG0 ?_
 exact List_ (Sa W h env s xs h1 pos _ E S e1 fun W1 s1 ys X1 S1 r1=>newLst S1 r1 e2 (g.step X1 S1.rel))
end
end Mine
namespace Mine
variable {P:Pm} {C:Cx} {W W':Wd} {h h':Hp} {env:List V} {s:Shared} {d n:Nat}
structure ClsOk (P:Pm) (c:Nat) (ms:List (Nat×Nat)):Prop where
 set:findIn P.K (.ref (P.ca c)) "__setattr__"=some (some (.builtin "object.__setattr__"))
 over:plainOver P.K (P.ca c)=true
 dict:hasDictIn P.K (P.ca c)=true
 get:∀ x,plainGet P.K (P.ca c) x=true
 free:∀ k,attrOk k ms=true→takerIn P.K (P.ca c) (P.nm k)=some none∧findIn P.K (.ref (P.ca c)) (P.nm k)=some none
 meth:∀ k f,assoc k ms=some f→findIn P.K (.ref (P.ca c)) (P.nm k)=some (some (.ref (P.fa f)))∧isFn P.K (.ref (P.fa f))=true∧keepIn P.K (.ref (P.fa f))=true
 makes:makesIn P.K (P.ca c)=true
 init:∀ f,assoc n_init ms=some f→findIn P.K (.ref (P.ca c)) "__init__"=some (some (.ref (P.fa f)))∧typeIn P.K (.ref (P.fa f))=some (.type "function")
 keep:keepIn P.K (.ref (P.ca c))=true
noncomputable def ClsAll (P:Pm):Prop:=∀ c ms,clsT.get c=some ms→ClsOk P c ms
theorem isStr_nm (ok:POk P) (j k:Nat) (t:Tok):(Value.str (P.nm j) t).isStr (P.nm k)=decide (j=k):=by
 rw [isStr_of]
 show (P.nm j == P.nm k)=_
 by_cases q:j=k
 ·rw [q,decide_eq_true rfl]; exact beq_self_eq_true _
 ·rw [decide_eq_false q]; exact beq_eq_false_iff_ne.mpr fun e=>q (ok.nmi _ _ e)
theorem rn_noref {es:List (Nat×V)} {ds:List DictEntry} (R:RN P W n es ds):ds.any (·.refKey)=false:=by
 induction R with
 | nil=>rfl
 | cons _ _ ih=>rw [List.any_cons,ih]; rfl
theorem rn_get (ok:POk P) {es:List (Nat×V)} {ds:List DictEntry} (R:RN P W n es ds) (k:Nat):(assoc k es=none∧getL (P.nm k) ds=some none)∨∃ v y,assoc k es=some v∧getL (P.nm k) ds=some (some y)∧RV P W n v y:=by
 have nr:=rn_noref R
 unfold getL
 rw [nr]
 clear nr
 induction R with
 | nil=>exact .inl ⟨rfl,rfl⟩
 | @cons j x hh t v es ds r _ ih=>
  have e:assoc k ((j,x)::es)=Bool.rec (motive:=fun _=>Option V) (assoc k es) (some x) (Nat.beq j k):=rfl
  rw [e,beqD]
  simp only [List.find?_cons,isStr_nm ok]
  by_cases q:j=k
  ·rw [decide_eq_true q]; exact .inr ⟨x,v,rfl,rfl,r⟩
  ·rw [decide_eq_false q]; exact ih
theorem rn_put (ok:POk P) {es:List (Nat×V)} {ds:List DictEntry} (R:RN P W n es ds) (k:Nat) {v:V} {y:Value} (r:RV P W n v y) (hsh:Int) (t:Tok):RN P W n (aput k v es) (putL (P.nm k) hsh (.str (P.nm k) t) y ds)∧(putL (P.nm k) hsh (.str (P.nm k) t) y ds).length≤ds.length + 1:=by
 induction R with
 | nil=>exact ⟨.cons r .nil,by simp [putL]⟩
 | @cons j x hh u w es ds r' R' ih=>
  have e:aput k v ((j,x)::es)=Bool.rec (motive:=fun _=>List (Nat×V)) ((j,x)::aput k v es) ((k,v)::es) (Nat.beq j k):=rfl
  rw [e,beqD]
  simp only [putL,isStr_nm ok]
  by_cases q:j=k
  ·rw [decide_eq_true q,if_pos rfl]; subst q; exact ⟨.cons r R',by simp⟩
  ·rw [decide_eq_false q,if_neg (by simp)]
   exact ⟨.cons r' ih.1,by simp only [List.length_cons]; lia⟩
theorem rn_len {es:List (Nat×V)} {ds:List DictEntry} (R:RN P W n es ds):es.length=ds.length:=by
 induction R with
 | nil=>rfl
 | cons _ _ ih=>simp [ih]
theorem plainV_handed {v:V} {y:Value} (r:RV P W n v y) (e:plainV v=true):handedIn y=true:=by
 cases v with
 | none=>simp only [RV] at r; subst r; rfl
 | bool _=>simp only [RV] at r; subst r; rfl
 | int _=>simp only [RV] at r; obtain ⟨t,rfl⟩:=r; rfl
 | str _=>simp only [RV] at r; obtain ⟨t,rfl⟩:=r; rfl
 | dyn=>simp only [RV] at r; obtain ⟨_,t,rfl,_⟩:=r; rfl
 | ref _=>simp only [RV] at r; obtain ⟨_,rfl⟩:=r; rfl
 | si _=>simp only [RV] at r; obtain ⟨t,rfl⟩:=r; rfl
 | kd _=>simp only [RV] at r; obtain ⟨t,rfl⟩:=r; rfl
 | tn=>simp only [RV] at r; obtain ⟨t,rfl,_⟩:=r; rfl
 | tc _ _=>simp only [RV] at r; obtain ⟨t,_,_,rfl,_⟩:=r; rfl
 | _=>exact bX e
theorem nsO_v {o:Option O} {k:List (Nat×V)→R} {v:V} (e:nsO o k=.v v h'):∃ es,o=some (.ns es)∧k es=.v v h':=by
 induction o using Option.casesOn with
 | none=>exact rX e
 | some o=>cases o with
  | ns es=>exact ⟨es,rfl,e⟩
  | _=>exact rX e
theorem inst_at (S:St P C W h env s) {a c d:Nat} {es:List (Nat×V)} (ea:h.t.get a=some (.inst c d)) (ed:h.t.get d=some (.ns es)) :
  ∃ ds ep,d < h.n∧(W.si d,dictOf ds ep)∈W.ns∧RN P W h.n es ds∧ds.length≤1000∧InstAt s.heap (W.si a) (instObj (P.ca c) (W.si d)) (P.ca c) (some (dictOf ds ep)):=by
 refine pL fun G0 hG0=>?_
 obtain ⟨_,_,m⟩:=S.rel.at ea
 obtain ⟨ld,ds,ep,md,R,hl⟩:=S.rel.at ed
 refine hG0 ?_
 exact ⟨ds,ep,ld,md,R,hl,InstAt.of_news S.nw m md⟩
theorem attr_ok (ok:C.Ok P d) (CA:ClsAll P) {A:Around} {E:Value→Shared→Prop} {Q:Value→Shared→Prop} {o v:V} {x:Value} {k:Nat} {ex:Bool} (S:St P C W h env s) (ro:RV P W h.n o x) (e:(R.obj h o fun _ ob=>sAttr h k ob)=.v v h') (g:Go P C W h env h' v Q) :
  wpAny (Cx.M P) A (getAttr x (P.nm k) ex) Q E s:=by
 refine pL fun G0 hG0=>?_
 obtain ⟨a,ob,rfl,ea,e1⟩:=obj_v e
 obtain ⟨_,rfl⟩:=rv_ref ro
 refine hG0 ?_
 induction ob using O.casesOn with
 | inst c dd=>
  refine pL fun G0 hG0=>?_
  obtain ⟨ms,e2,e3⟩:=ofO_v e1
  obtain ⟨e4,e5⟩:=ifT_v e3
  obtain ⟨es,ed,e6⟩:=nsO_v e5
  obtain ⟨w,e7,e8⟩:=ofO_v e6
  obtain ⟨e9,e10⟩:=ifT_v e8
  (obtain ⟨rfl,rfl⟩:=R.v.inj e10)
  have co:=CA c ms e2
  obtain ⟨ds,ep,ld,md,Rn,hl,I⟩:=inst_at S ea ed
  obtain ⟨m,F,_⟩:=S.fr
  refine hG0 ?_
  rcases rn_get ok.pok Rn k with ⟨n1,_⟩ | ⟨w',y,n1,n2,n3⟩
  ·rw [n1] at e7; exact oX e7
  ·rw [n1] at e7
   (obtain rfl:=Option.some.inj e7)
   exact get_own F ok.x I (co.get _) co.dict (co.free k e4).2 rfl n2 (plainV_handed n3 e9) (g.here S _ n3)
 | _=>exact rX e1
theorem setA_ok (ok:C.Ok P d) (CA:ClsAll P) {A:Around} {E:Value→Shared→Prop} {Q:Unit→Shared→Prop} {o v:V} {x y:Value} {k:Nat} {env':List V} (S:St P C W h env s) (ro:RV P W h.n o x) (rv:RV P W h.n v y) (e:(R.obj h o fun _ ob=>putA h ob k v env)=.nx env' h')
  (g:∀ W' s',Ext W W' h h'→St P C W' h' env s'→Q () s'):wpAny (Cx.M P) A (setAttr x (P.nm k) y) Q E s:=by
 have e0:∃ a ob,o=.ref a∧h.t.get a=some ob∧putA h ob k v env=.nx env' h':=by
  induction o using V.casesOn with
  | ref a=>
   have e:(R.ofO (h.t.get a) fun o=>putA h o k v env)=.nx env' h':=e
   induction q:h.t.get a using Option.casesOn with
   | none=>rw [q] at e; exact rX e
   | some ob=>rw [q] at e; exact ⟨a,ob,rfl,q,e⟩
  | _=>exact rX e
 refine pL fun G0 hG0=>?_
 obtain ⟨a,ob,rfl,ea,e1⟩:=e0
 obtain ⟨_,rfl⟩:=rv_ref ro
 refine hG0 ?_
 induction ob using O.casesOn with
 | inst c dd=>
  have e1:(R.ofO (clsT.get c) fun ms=>ifT (attrOk k ms) (nsO (h.t.get dd) fun es=>lid (b3 (Nat.blt es.length 900) (Nat.blt h.n 16000000) true) (.nx env (h.set dd (.ns (aput k v es))))))=.nx env' h':=e1
  induction e2:clsT.get c using Option.casesOn with
  | none=>rw [e2] at e1; exact rX e1
  | some ms=>
   rw [e2] at e1
   induction e4:attrOk k ms using Bool.casesOn with
   | false=>have e1:ifT (attrOk k ms) _=_:=e1; rw [e4] at e1; exact rX e1
   | true=>
    have e1:ifT (attrOk k ms) _=_:=e1
    rw [e4] at e1
    induction ed:h.t.get dd using Option.casesOn with
    | none=>rw [ed] at e1; exact rX e1
    | some od=>
     rw [ed] at e1
     induction od using O.casesOn with
     | ns es=>
      have e1:lid (b3 (Nat.blt es.length 900) (Nat.blt h.n 16000000) true) (.nx env (h.set dd (.ns (aput k v es))))=.nx env' h':=e1
      induction e5:b3 (Nat.blt es.length 900) (Nat.blt h.n 16000000) true using Bool.casesOn with
      | false=>rw [e5] at e1; exact rX e1
      | true=>
       refine pL fun G0 hG0=>?_
       rw [e5] at e1
       (obtain ⟨rfl,rfl⟩:=R.nx.inj e1)
       obtain ⟨q1,q2,_⟩:=b3_eq.mp e5
       rw [blt_eq,decide_eq_true_iff] at q1 q2
       have co:=CA c ms e2
       obtain ⟨ds,ep,ld,md,Rn,hl,I⟩:=inst_at S ea ed
       have hlen:es.length=ds.length:=rn_len Rn
       obtain ⟨m,F,Em⟩:=S.fr
       refine hG0 ?_
       have hls:(getL (P.nm k) ds).isSome=true:=by
        rcases rn_get ok.pok Rn k with ⟨_,n2⟩ | ⟨_,_,_,n2,_⟩ <;> rw [n2] <;> rfl
       obtain ⟨p1,p2⟩:=rn_put ok.pok Rn k rv (PyData.keyHash P.w.params (P.nm k)) (s.toks + 1)
       refine set_dict F ok.x S.nw I rfl co.set co.over (co.free k e4).1 co.dict hls rfl (Upd.ofRow S.rel.nod md) (by lia) fun hp F' N'=>?_
       have nt:¬ Imm (dictOf ds ep):=ni_dict rfl
       have L:Le W ⟨W.si,setRow (W.si dd) (dictOf (putL (P.nm k) (PyData.keyHash P.w.params (P.nm k)) (.str (P.nm k) (s.toks + 1)) y ds) (putN (P.nm k) ds ep)) W.ns⟩ h.n h.n:=⟨Nat.le_refl _,fun _ _=>rfl,fun b x i z=>setRow_ne (fun w=>nt (by rw [nod_eq S.rel.nod md (w▸z)]; exact i)) z⟩
       obtain ⟨R,X⟩:=S.rel.put (o':=dictOf (putL (P.nm k) (PyData.keyHash P.w.params (P.nm k)) (.str (P.nm k) (s.toks + 1)) y ds) (putN (P.nm k) ds ep)) (ob:=.ns (aput k v es)) ld (by lia) md nt ⟨_,_,setRow_eq md,p1.mono L,by lia⟩
       exact g _ _ X ⟨R,⟨m,F',Em.mono X.L⟩,N',S.gens,S.os⟩
     | _=>exact rX e1
 | _=>exact rX e1
end Mine
namespace Mine
variable {P:Pm} {C:Cx} {W W':Wd} {h h':Hp} {env:List V} {s:Shared} {d n:Nat} {cf:CF} {z:V}
theorem Out.bv {Q:Flow→Shared→Prop} {r:R} {k:V→Hp→R} (o:Out P C W h Q (R.bv r k)):∃ x h1,r=.v x h1∧Out P C W h Q (k x h1):=by
 induction r using R.casesOn with
 | v x h1=>exact ⟨x,h1,rfl,o⟩
 | _=>exact o.elim
theorem Out.mono {Q Q':Flow→Shared→Prop} {r:R} (o:Out P C W h Q r) (k:∀ f s,Q f s→Q' f s):Out P C W h Q' r:=by
 induction r using R.casesOn with
 | nx env' h'=>exact fun W' s' X S=>k _ _ (o W' s' X S)
 | rt v h'=>exact fun W' s' y X S rv=>k _ _ (o W' s' y X S rv)
 | _=>exact o
theorem rule_seq {a r:U} {st:Stmt} {sts:List Stmt} (Sa:SndS P C (fun env h=>a cf z env h) st) (Sr:SndSs P C (fun env h=>r cf z env h) sts):SndSs P C (fun env h=>cSeq a r cf z env h) (st::sts):=by
 intro W h env s Q E S o
 refine wpAny_execs_cons (Sa W h env s (fun f s'=>match f with | .next=>wpAny (Cx.M P) C.A (execs sts C.env) Q E s' | f=>Q f s') E S ?_)
 have o:Out P C W h Q ((a cf z env h).bnx fun env h=>r cf z env h):=o
 show Out P C W h _ (a cf z env h)
 generalize a cf z env h=ra at o
 induction ra using R.casesOn with
 | nx env' h1=>exact fun W1 s1 X1 S1=>Sr W1 h1 env' s1 Q E S1 (Out.step (r:=r cf z env' h1) o X1 S1.rel)
 | rt v h1=>exact fun W1 s1 y X1 S1 rv=>o W1 s1 y X1 S1 rv
 | v _ _=>exact o.elim
 | vs _ _=>exact o.elim
 | no=>exact o.elim
theorem rule_snil:SndSs P C (fun env h=>cSkip cf z env h) []:=by
 intro W h env s Q E S o
 exact wpAny_execs_nil (o W s (Ext.refl W h) S)
theorem rule_pass {pos:Pos}:SndS P C (fun env h=>cSkip cf z env h) (.Pass pos):=by
 intro W h env s Q E S o
 exact wpAny_Pass (o W s (Ext.refl W h) S)
theorem rule_dead {st:Stmt}:SndS P C (fun env h=>cDead cf z env h) st:=fun W h env s Q E S o=>o.elim
theorem rule_if {c a b:U} {ec:Expr} {sa sb:List Stmt} {pos:Pos} (Sc:SndB P C (fun env h=>c cf z env h) ec) (Sa:SndSs P C (fun env h=>a cf z env h) sa) (Sb:SndSs P C (fun env h=>b cf z env h) sb):SndS P C (fun env h=>cIf c a b cf z env h) (.If ec sa sb pos):=by
 intro W h env s Q E S o
 refine pL fun G0 hG0=>?_
 obtain ⟨x,h1,e1,o1⟩:=Out.bv o
 refine hG0 ?_
 have key:∃ t,x=.bool t∧Out P C W h Q (if t then a cf z env h1 else b cf z env h1):=by
  cases x with
  | bool t=>exact ⟨t,rfl,by cases t <;> exact o1⟩
  | _=>exact o1.elim
 obtain ⟨t,rfl,o2⟩:=key
 refine wpAny_If (Sc W h env s t h1 (fun b' s₂=>if b' then wpAny (Cx.M P) C.A (execs sa C.env) Q E s₂ else wpAny (Cx.M P) C.A (execs sb C.env) Q E s₂) E S e1 fun W1 s1 X1 S1=>?_)
 induction t using Bool.casesOn with
 | true=>exact Sa W1 h1 env s1 Q E S1 (o2.step X1 S1.rel)
 | false=>exact Sb W1 h1 env s1 Q E S1 (o2.step X1 S1.rel)
theorem St.noEnv (S:St P C W h env s):St P C W h [] s:=let ⟨m,F,_⟩:=S.fr; ⟨S.rel,⟨m,F,fun i x v _ e=>(nomatch e)⟩,S.nw,S.gens,S.os⟩
theorem rule_ret {a:U} {e:Expr} {pos:Pos} (Sa:SndE P C (fun env h=>a cf z env h) e):SndS P C (fun env h=>cRet a cf z env h) (.Return (some e) pos):=by
 intro W h env s Q E S o
 refine pL fun G0 hG0=>?_
 obtain ⟨x,h1,e1,o1⟩:=Out.bv o
 refine hG0 ?_
 exact wpAny_Return_some (Sa W h env s x h1 _ E S e1 fun W1 s1 y X1 S1 r1=>o1 W1 s1 y X1 S1.noEnv r1)
theorem rule_ret0 {pos:Pos}:SndS P C (fun env h=>cRet (cV .none) cf z env h) (.Return none pos):=by
 intro W h env s Q E S o
 exact wpAny_Return_none (o W s .none (Ext.refl W h) S.noEnv (by simp only [RV]))
theorem rule_expr (ok:C.Ok P d) {a:U} {e:Expr} {pos:Pos} (hs:swapsWith e none pos.line C.env=pure false) (hi:interactive C.env=false) (Sa:SndE P C (fun env h=>a cf z env h) e):SndS P C (fun env h=>cExpr a cf z env h) (.Expr e pos):=by
 intro W h env s Q E S o
 refine pL fun G0 hG0=>?_
 obtain ⟨x,h1,e1,o1⟩:=Out.bv o
 refine hG0 ?_
 exact wpAny_Expr_any (Sa W h env s x h1 _ E S e1 fun W1 s1 y X1 S1 r1=>o1 W1 s1 X1 S1) hi hs
theorem rule_asgn {t a:U} {et ea:Expr} {pos:Pos} (hs:swapsWithSole [et] ea pos.line C.env=pure false) (hw:swappedStores [et] ea C.env=pure none) (hst:(assignEach [et] C.env).map (·.2)=[assign et C.env])
  (Sa:SndE P C (fun env h=>a cf z env h) ea) (St':SndT P C (fun z env h=>t cf z env h) et):SndS P C (fun env h=>cAsgn t a cf z env h) (.Assign [et] ea pos):=by
 intro W h env s Q E S o
 refine pL fun G0 hG0=>?_
 obtain ⟨x,h1,e1,o1⟩:=Out.bv o
 refine hG0 ?_
 rw [exec_Assign]
 refine wpAny_bind (wpAny_standAt ?_)
 rw [hs]
 refine wpAny_bind (wpAny_pure ?_)
 rw [if_neg (by decide)]
 refine wpAny_bind (Sa W h env s x h1 _ E S e1 fun W1 s1 y X1 S1 r1=>?_)
 rw [hw,hst]
 refine wpAny_bind (wpAny_pure ?_)
 show wpAny _ _ (do assignAll y [assign et C.env]; pure .next) Q E s1
 refine wpAny_bind ?_
 show wpAny _ _ (assign et C.env y) _ E s1
 have key:∃ env' h',t cf x env h1=.nx env' h'∧Out P C W h Q (.nx env' h'):=by
  generalize t cf x env h1=r at o1
  induction r using R.casesOn with
  | nx env' h'=>exact ⟨env',h',rfl,o1⟩
  | _=>exact o1.elim
 refine pL fun G0 hG0=>?_
 obtain ⟨env',h',e2,o2⟩:=key
 refine hG0 ?_
 exact St' W1 h1 env s1 x y env' h' _ E S1 r1 e2 fun W2 s2 X2 S2=>wpAny_pure (o2 W2 s2 (X1.trans X2 S1.rel) S2)
theorem store_ok (ok:C.Ok P d) {A:Around} {E:Value→Shared→Prop} {Q:Unit→Shared→Prop} {i:Nat} {x:Str} (hx:C.names[i]?=some x) (hc:C.cl.lookup x=none) (S:St P C W h env s) {v:V} {y:Value} (r:RV P W h.n v y) (q:∀ s',St P C W h (lset v env i) s'→Q () s'):wpAny (Cx.M P) A (storeName C.env x y) Q E s:=by
 have hm:=List.mem_of_getElem? hx
 obtain ⟨m,F,Em⟩:=S.fr
 refine storeX_L F S.nw (fun hp F' N'=>q _ ⟨S.rel,⟨_,F',?_⟩,N',S.gens,S.os⟩) ok.kind (ok.loc x hm hc)
 have lget:∀ (l:List V) (i j:Nat),(lset v l i)[j]?=if i=j∧i < l.length then some v else l[j]?:=by
  intro l
  induction l with
  | nil=>intro i j; show ([]:List V)[j]?=_; rw [if_neg (by simp)]
  | cons a l ih=>
   intro i j
   cases i with
   | zero=>cases j with
    | zero=>rfl
    | succ j=>show l[j]?=_; rw [if_neg (by lia)]; rfl
   | succ i=>cases j with
    | zero=>show some a=_; rw [if_neg (by lia)]; rfl
    | succ j=>show (lset v l i)[j]?=_; rw [ih]; simp
 intro j w u h1 h2 h3
 rw [lget] at h2
 by_cases e:w=x
 ·subst e
  have:i=j:=(List.getElem?_inj (List.getElem?_eq_some_iff.mp hx).1 ok.nod).mp (hx.trans h1.symm)
  subst this
  by_cases q:i < env.length
  ·rw [if_pos ⟨rfl,q⟩] at h2; (obtain rfl:=Option.some.inj h2); exact ⟨y,.inl ⟨hc,if_pos rfl⟩,r⟩
  ·rw [if_neg (by lia),List.getElem?_eq_none (by lia)] at h2; exact oX h2
 ·have ne:i≠j:=fun q=>e (by subst q; exact Option.some.inj (h1.symm.trans hx))
  rw [if_neg (by lia)] at h2
  obtain ⟨y1,y2,y3⟩:=Em j w u h1 h2 h3
  exact ⟨y1,y2.elim (fun z=>.inl ⟨z.1,(if_neg e).trans z.2⟩) .inr,y3⟩
theorem rule_tname (ok:C.Ok P d) {i:Nat} {x:Str} {pos:Pos} (hx:C.names[i]?=some x) (hc:C.cl.lookup x=none):SndT P C (fun z env h=>cName i cf z env h) (.Name x pos):=by
 intro W h env s z y env' h' Q E S r e o
 refine pL fun G0 hG0=>?_
 (obtain ⟨rfl,rfl⟩:=R.nx.inj e)
 refine hG0 ?_
 exact assign_Name (store_ok ok hx hc S r fun s' S'=>o W s' (Ext.refl W h) S')
end Mine
namespace Mine
variable {P:Pm} {C:Cx} {W W':Wd} {h h':Hp} {env:List V} {s:Shared} {d n:Nat} {cf:CF} {z:V}
theorem bv_nx {r:R} {k:V→Hp→R} {env':List V} (e:R.bv r k=.nx env' h'):∃ x h1,r=.v x h1∧k x h1=.nx env' h':=by
 induction r using R.casesOn with
 | v x h1=>exact ⟨x,h1,rfl,e⟩
 | _=>exact rX e
theorem obj_nx {v:V} {k:Nat→O→R} {env':List V} (e:R.obj h v k=.nx env' h'):∃ a o,v=.ref a∧h.t.get a=some o∧k a o=.nx env' h':=by
 induction v using V.casesOn with
 | ref a=>
  have e:(R.ofO (h.t.get a) fun o=>k a o)=.nx env' h':=e
  induction q:h.t.get a using Option.casesOn with
  | none=>rw [q] at e; exact rX e
  | some o=>rw [q] at e; exact ⟨a,o,rfl,q,e⟩
 | _=>exact rX e
theorem putA_env {o:O} {k:Nat} {v:V} {env':List V} (e:putA h o k v env=.nx env' h'):env'=env:=by
 induction o using O.casesOn with
 | inst c d=>
  have e:(R.ofO (clsT.get c) fun ms=>ifT (attrOk k ms) (nsO (h.t.get d) fun es=>lid (b3 (Nat.blt es.length 900) (Nat.blt h.n 16000000) true) (.nx env (h.set d (.ns (aput k v es))))))=.nx env' h':=e
  induction q:clsT.get c using Option.casesOn with
  | none=>rw [q] at e; exact rX e
  | some ms=>
   rw [q] at e
   have e:ifT (attrOk k ms) (nsO (h.t.get d) fun es=>lid (b3 (Nat.blt es.length 900) (Nat.blt h.n 16000000) true) (.nx env (h.set d (.ns (aput k v es)))))=.nx env' h':=e
   induction q1:attrOk k ms using Bool.casesOn with
   | false=>rw [q1] at e; exact rX e
   | true=>
    rw [q1] at e
    induction q2:h.t.get d using Option.casesOn with
    | none=>rw [q2] at e; exact rX e
    | some od=>
     rw [q2] at e
     induction od using O.casesOn with
     | ns es=>
      have e:lid (b3 (Nat.blt es.length 900) (Nat.blt h.n 16000000) true) (.nx env (h.set d (.ns (aput k v es))))=.nx env' h':=e
      induction q3:b3 (Nat.blt es.length 900) (Nat.blt h.n 16000000) true using Bool.casesOn with
      | false=>rw [q3] at e; exact rX e
      | true=>rw [q3] at e; (obtain ⟨rfl,rfl⟩:=R.nx.inj e); rfl
     | _=>exact rX e
 | _=>exact rX e
theorem rule_tattr (ok:C.Ok P d) (CA:ClsAll P) {a:U} {k:Nat} {ea:Expr} {pos:Pos} (Sa:∀ z,SndE P C (fun env h=>a cf z env h) ea):SndT P C (fun z' env h=>cTattr a k cf z' env h) (.Attribute ea (P.nm k) pos):=by
 intro W h env s z y env' h' Q E S r e g
 refine pL fun G0 hG0=>?_
 obtain ⟨x,h1,e1,e2⟩:=bv_nx e
 obtain ⟨b,o,_,_,e3⟩:=obj_nx e2
 have:=putA_env e3
 subst this
 refine hG0 ?_
 rw [assign_Attribute]
 refine wpAny_bind (wpAny_holding (Sa z W h env' s x h1 _ E S e1 fun W1 s1 ov X1 S1 r1=>wpAny_bind (wpAny_standAt (wpAny_bind (wpAny_holding ?_)))))
 exact setA_ok ok CA S1 r1 (r.mono X1.L) e2 fun W2 s2 X2 S2=>wpAny_release' (g W2 s2 (X1.trans X2 S1.rel) S2)
theorem setItem_row {M:Program} {w:World} {A:Around} {E:Value→Shared→Prop} {s:Shared} {l:Addr} {its:Array Value} {ep k:Nat} {t:Tok} {v:Value} {Q:Unit→Shared→Prop} (ho:s.heap.get? l=some (listOf its ep)) (hk:k < its.size) (hs:its.size < 2 ^ 60)
  (q:∀ hp ep',hp.get? l=some (listOf (its.setIfInBounds k v) ep')→Heap.SameBut l s.heap hp→Q () { s with heap:=hp }):wpAny (model M w) A (setItem (.ref l) (.int (Int.ofNat k) t) v) Q E s:=by
 have hl:s.heap.IsList l its:=⟨_,ho,rfl,ep,rfl⟩
 obtain ⟨i,hi⟩:∃ i:Int,i=(k:Int):=⟨_,rfl⟩
 rw [ofN,← hi]
 unfold setItem
 refine wpAny_holding ?_
 refine wpAny_bind (wpAny_sequenceKey hl.typeIs (by decide) ?_)
 refine wpAny_bind (wpAny_callSpecial?_slot (name:=Str.ofString "__setitem__") hl.typeIs slot_list_setitem (wpAny_call_entry slot_list_setitem hl.typeIs entry_list_setitem ?_ (args_list_setitem _ _ _)))
 show wpAny _ _ (Builtin.List.listSubscript? (.int i t) >>= _) _ _ s
 refine wpAny_bind (wpAny_listSubscript_int (fitsIndex_of (by lia) (by lia)) ?_)
 subst hi
 show wpAny _ _ ((seqItemAt l k >>= fun r=>pure (r.map (k,·))) >>= _) _ _ s
 refine wpAny_bind (wpAny_bind (wpAny_seqItemAt ho rfl (wpAny_pure ?_)))
 rw [Array.getElem?_eq_getElem hk]
 show wpAny _ _ (setSeqItemAt l k v >>= _) _ _ s
 refine wpAny_bind (wpAny_setSeqItemAt ho rfl ?_)
 have hg:(s.heap.update l (Obj.mapSeq (·.setIfInBounds k v))).get? l=some (Obj.mapSeq (·.setIfInBounds k v) (listOf its ep)):=Heap.get?_update_self _ ho rfl
 exact wpAny_pure ⟨.none,rfl,wpAny_pure (q _ _ hg (Heap.SameBut.update ..))⟩
theorem setI_ok (ok:C.Ok P d) {E:Value→Shared→Prop} {Q:Unit→Shared→Prop} {o iv v:V} {x i y:Value} {env':List V} (S:St P C W h env s) (ro:RV P W h.n o x) (ri:RV P W h.n iv i) (rv:RV P W h.n v y) (e:(R.obj h o fun a ob=>putO h a ob iv v env)=.nx env' h')
  (g:∀ W' s',Ext W W' h h'→St P C W' h' env' s'→Q () s'):wpAny (Cx.M P) C.A (setItem x i y) Q E s:=by
 obtain ⟨a,ob,rfl,ea,e1⟩:=obj_nx e
 obtain ⟨la,rfl⟩:=rv_ref ro
 induction ob using O.casesOn with
 | list k t=>
  induction iv using V.casesOn with
  | int j=>
   have e2:(R.ofO (idx j k) fun k'=>ifT (Nat.blt h.n 16000000) (R.nx env (h.set a (.list k (t.put k' v)))))=.nx env' h':=e1
   induction q:idx j k using Option.casesOn with
   | none=>rw [q] at e2; exact rX e2
   | some k'=>
    rw [q] at e2
    have e2:ifT (Nat.blt h.n 16000000) (R.nx env (h.set a (.list k (t.put k' v))))=.nx env' h':=e2
    induction q1:Nat.blt h.n 16000000 using Bool.casesOn with
    | false=>rw [q1] at e2; exact rX e2
    | true=>
     refine pL fun G0 hG0=>?_
     rw [q1] at e2
     (obtain ⟨rfl,rfl⟩:=R.nx.inj e2)
     rw [blt_eq,decide_eq_true_iff] at q1
     obtain ⟨rfl,hk⟩:=idx_some q
     obtain ⟨u,rfl⟩:=rvI ri
     obtain ⟨_,its,ep,m,hs,hle,hget⟩:=list_at S ea
     refine hG0 ?_
     refine setItem_row (S.nw.get m) (by lia) (by lia) fun hp ep' hr hs'=>?_
     have nt:¬ Imm (listOf its ep):=ni_cls (T:="list") rfl (by decide) fun y e=>(nomatch e)
     have L:Le W ⟨W.si,setRow (W.si a) (listOf (its.setIfInBounds k' y) ep') W.ns⟩ h.n h.n:=⟨Nat.le_refl _,fun _ _=>rfl,fun b x i z=>setRow_ne (fun w=>nt (by rw [nod_eq S.rel.nod m (w▸z)]; exact i)) z⟩
     have ho:RO P ⟨W.si,setRow (W.si a) (listOf (its.setIfInBounds k' y) ep') W.ns⟩ h.n (.list k (t.put k' v)) (W.si a):=by
      refine ⟨_,ep',setRow_eq m,by simp [hs],hle,fun i w hlt hw=>?_⟩
      rw [Tr.get_put t v k' i (by lia)] at hw
      by_cases q:k'=i
      ·rw [if_pos q] at hw
       (obtain rfl:=Option.some.inj hw)
       subst q
       exact ⟨y,by simp [hs,hk],rv.mono L⟩
      ·rw [if_neg q] at hw
       obtain ⟨z,z1,z2⟩:=hget i w hlt hw
       exact ⟨z,by rw [Array.getElem?_setIfInBounds_ne q]; exact z1,z2.mono L⟩
     obtain ⟨S',X⟩:=S.put (ob:=.list k (t.put k' v)) la (by lia) m nt hs' hr ho s.toks
     exact g _ _ X S'
  | _=>exact rX e1
 | dict es=>
  have e2:(R.ofO (dput iv v es) fun es'=>lid (b3 (Nat.blt es'.length 900) (Nat.blt es.length 900) (Nat.blt h.n 16000000)) (R.nx env (h.set a (.dict es'))))=.nx env' h':=e1
  induction q:dput iv v es using Option.casesOn with
  | none=>rw [q] at e2; exact rX e2
  | some es'=>
   rw [q] at e2
   have e2:lid (b3 (Nat.blt es'.length 900) (Nat.blt es.length 900) (Nat.blt h.n 16000000)) (R.nx env (h.set a (.dict es')))=.nx env' h':=e2
   induction q1:b3 (Nat.blt es'.length 900) (Nat.blt es.length 900) (Nat.blt h.n 16000000) using Bool.casesOn with
   | false=>rw [q1] at e2; exact rX e2
   | true=>
    refine pL fun G0 hG0=>?_
    rw [q1] at e2
    (obtain ⟨rfl,rfl⟩:=R.nx.inj e2)
    obtain ⟨p1,p2,p3⟩:=b3_eq.mp q1
    rw [blt_eq,decide_eq_true_iff] at p1 p2 p3
    obtain ⟨f1,f2⟩:=onB_some q
    obtain ⟨g1,g2,_⟩:=b3_eq.mp f1
    obtain ⟨_,xs,ep,m,D⟩:=S.rel.at ea
    obtain ⟨c,KA⟩:=keyAt ok.pok S.nw ri g1
    refine hG0 ?_
    have hu:C.A.units + 30 < cLine:=by have:=ok.units; show C.A.units + 30 < 9900; lia
    exact dv_set ok.pok S la (by lia) m D KA g2 f2 (by lia) rv hu g
 | _=>exact rX e1
theorem rule_tsub (ok:C.Ok P d) {a b:U} {ea eb:Expr} {pos:Pos} (Sa:∀ z,SndE P C (fun env h=>a cf z env h) ea) (Sb:∀ z,SndE P C (fun env h=>b cf z env h) eb):SndT P C (fun z' env h=>cTsub a b cf z' env h) (.Subscript ea eb pos):=by
 intro W h env s z y env' h' Q E S r e g
 refine pL fun G0 hG0=>?_
 obtain ⟨x,h1,e1,e2⟩:=bv_nx e
 obtain ⟨i,h2,e3,e4⟩:=bv_nx e2
 refine hG0 ?_
 rw [assign_Subscript]
 refine wpAny_bind (wpAny_holding (Sa z W h env s x h1 _ E S e1 fun W1 s1 ov X1 S1 r1=>wpAny_bind (wpAny_holding (Sb z W1 h1 env s1 i h2 _ E S1 e3 fun W2 s2 iv X2 S2 r2=>wpAny_bind (wpAny_standAt (wpAny_bind (wpAny_holding ?_)))))))
 exact setI_ok ok S2 (r1.mono X2.L) r2 (r.mono (X1.trans X2 S1.rel).L) e4 fun W3 s3 X3 S3=>wpAny_release' (g W3 s3 ((X1.trans X2 S1.rel).trans X3 S2.rel) S3)
end Mine
namespace Mine
variable {P:Pm} {C:Cx} {W W':Wd} {h h':Hp} {env:List V} {s:Shared} {d n:Nat} {cf:CF} {z:V}
theorem rule_attr (ok:C.Ok P d) (CA:ClsAll P) {a:U} {k:Nat} {ea:Expr} {pos:Pos} (he:eval (.Attribute ea (P.nm k) pos) C.env=(do
   let o ← eval ea C.env
   standAt pos.atName
   let r ← holding [o] (getAttr o (P.nm k) true)
   letTemporaryGo ea o r
   pure r)) (Sa:SndE P C (fun env h=>a cf z env h) ea):SndE P C (fun env h=>cAttr a k cf z env h) (.Attribute ea (P.nm k) pos):=by
 intro W h env s v h' Q E S e g
 refine pL fun G0 hG0=>?_
 obtain ⟨x,h1,e1,e2⟩:=bv_v e
 refine hG0 ?_
 exact Attribute_any_ (Sa W h env s x h1 _ E S e1 fun W1 s1 y X1 S1 r1=>attr_ok ok CA S1 r1 e2 (g.step X1 S1.rel)) he
theorem rule_sub (ok:C.Ok P d) {a b:U} {ea eb:Expr} {pos:Pos} (hs:∀ o i,subscripted eb false o i=operate [o,i] (getItem o i)) (Sa:SndE P C (fun env h=>a cf z env h) ea) (Sb:SndE P C (fun env h=>b cf z env h) eb) :
  SndE P C (fun env h=>cSub a b cf z env h) (.Subscript ea eb pos):=by
 intro W h env s v h' Q E S e g
 refine pL fun G0 hG0=>?_
 obtain ⟨x,h1,e1,e2⟩:=bv_v e
 obtain ⟨i,h2,e3,e4⟩:=bv_v e2
 refine hG0 ?_
 refine Subscript_ (Sa W h env s x h1 _ E S e1 fun W1 s1 u X1 S1 r1=>Sb W1 h1 env s1 i h2 _ E S1 e3 fun W2 s2 w X2 S2 r2=>?_)
 refine pL fun G0 hG0=>?_
 have hu:C.A.units + 120 < cLine:=by have:=ok.units; show C.A.units + 120 < 9900; lia
 obtain ⟨hg,T,id,hT,hl⟩:=subV_ok (E:=E) ok.pok S2 hu (r1.mono X2.L) r2 e4 (g.step (X1.trans X2 S1.rel) S2.rel)
 refine hG0 ?_
 exact tail_any hT hl hg (hs _ _)
noncomputable def GName (P:Pm) (g:Nat) (x:Str):Prop:=nsIn P.K mainGlobals x=some (some (P.gv g))∨(nsIn P.K mainGlobals x=some none∧bootBuiltins x=some (P.gv g)∧x≠"__name__")
theorem rule_glb (ok:C.Ok P d) (G:GOk P P.K) {g:Nat} {x:Str} {pos:Pos} (hn:GName P g x) (hk:C.cs.names.lookup x=some .globalImplicit) (hd:(x == ("__debug__":Str))=false):SndE P C (fun env h=>cGlb g cf z env h) (.Name x pos):=by
 intro W h env s v h' Q E S e gg
 refine pL fun G0 hG0=>?_
 obtain ⟨q,e1,e2⟩:=ofO_v e
 obtain ⟨m,F,_⟩:=S.fr
 refine hG0 ?_
 have gr:=G g q e1
 have fin:Q (P.gv g) s:=by
  cases q with
  | val w=>(obtain ⟨rfl,rfl⟩:=R.v.inj e2); exact gg.now S (gr W h.n)
  | bi k=>(obtain ⟨rfl,rfl⟩:=R.v.inj e2); exact gg.now S (by simp only [RV])
  | cls c=>(obtain ⟨rfl,rfl⟩:=R.v.inj e2); exact gg.now S (by simp only [RV])
  | fn f=>(obtain ⟨rfl,rfl⟩:=R.v.inj e2); exact gg.now S (by simp only [RV])
  | tab es=>(obtain ⟨rfl,rfl⟩:=R.v.inj e2); exact gg.now S (by simp only [RV])
 rcases hn with hn | ⟨hn,hb,hne⟩
 ·exact nameX_K F ok.x ok.t hn fin ok.kind hk hd
 ·exact nameX_B F ok.x ok.t hn hb hne fin ok.kind hk hd
end Mine
namespace Mine
variable {P:Pm} {C:Cx} {W W':Wd} {h h':Hp} {env:List V} {s:Shared} {d n:Nat} {cf:CF} {z:V}
noncomputable def SndL (P:Pm) (C:Cx) (op:BoolOp) (f:List V→Hp→R) (es:List Expr):Prop:=
 (∀ pos,SndE P C f (.BoolOp op es pos))∧
 ∀ W h env s b h' pos whole Q E,St P C W h env s→f env h=.v (.bool b) h'→(∀ W' s',Ext W W' h h'→St P C W' h' env s'→Q b s')→wpAny (Cx.M P) C.A (PySem.isTrue (.BoolOp op es pos) C.env whole) Q E s
theorem rule_and1 {a:U} {e:Expr} (Sa:SndE P C (fun env h=>a cf z env h) e) (Sb:SndB P C (fun env h=>a cf z env h) e):SndL P C .And (fun env h=>a cf z env h) [e]:=by
 refine ⟨fun pos W h env s v h' Q E S e1 g=>BoolOp_one (Sa W h env s v h' Q E S e1 g),fun W h env s b h' pos whole Q E S e1 g=>?_⟩
 refine isTrue_and (Sb W h env s b h' (fun c s'=>if c then wpAny (Cx.M P) C.A (PySem.isTrue (.BoolOp .And [] pos) C.env whole) Q E s' else Q false s') E S e1 fun W1 s1 X1 S1=>?_)
 induction b using Bool.casesOn with
 | true=>exact isTrue_and_nil (g W1 s1 X1 S1)
 | false=>exact g W1 s1 X1 S1
theorem rule_or1 {a:U} {e:Expr} (Sa:SndE P C (fun env h=>a cf z env h) e) (Sb:SndB P C (fun env h=>a cf z env h) e):SndL P C .Or (fun env h=>a cf z env h) [e]:=by
 refine ⟨fun pos W h env s v h' Q E S e1 g=>BoolOp_one (Sa W h env s v h' Q E S e1 g),fun W h env s b h' pos whole Q E S e1 g=>?_⟩
 refine isTrue_or (Sb W h env s b h' (fun c s'=>if c then Q true s' else wpAny (Cx.M P) C.A (PySem.isTrue (.BoolOp .Or [] pos) C.env whole) Q E s') E S e1 fun W1 s1 X1 S1=>?_)
 induction b using Bool.casesOn with
 | true=>exact g W1 s1 X1 S1
 | false=>exact isTrue_or_nil (g W1 s1 X1 S1)
theorem rule_and {a r:U} {e e2:Expr} {es:List Expr} (Sa:SndE P C (fun env h=>a cf z env h) e) (Sb:SndB P C (fun env h=>a cf z env h) e) (Sr:SndL P C .And (fun env h=>r cf z env h) (e2::es)):SndL P C .And (fun env h=>cAnd a r cf z env h) (e::e2::es):=by
 constructor
 ·intro pos W h env s v h' Q E S e1 g
  refine pL fun G0 hG0=>?_
  obtain ⟨x,h1,q1,q2⟩:=bv_v e1
  refine hG0 ?_
  rcases ifB_v q2 with ⟨t,q3⟩ | ⟨t,q3⟩
  ·cases tru t
   refine BoolOp_and (Sa W h env s _ h1 _ E S q1 fun W1 s1 y X1 S1 r1=>?_)
   simp only [RV] at r1
   subst r1
   exact wpAny_truthy_bool (Sr.1 pos W1 h1 env s1 v h' Q E S1 q3 (g.step X1 S1.rel))
  ·cases tru t
   refine pL fun G0 hG0=>?_
   (obtain ⟨rfl,rfl⟩:=R.v.inj q3)
   refine hG0 ?_
   refine BoolOp_and (Sa W h env s _ _ _ E S q1 fun W1 s1 y X1 S1 r1=>?_)
   have r2:=r1
   simp only [RV] at r1
   subst r1
   exact wpAny_truthy_bool (g W1 s1 _ X1 S1 r2)
 ·intro W h env s b h' pos whole Q E S e1 g
  refine pL fun G0 hG0=>?_
  obtain ⟨x,h1,q1,q2⟩:=bv_v e1
  refine hG0 ?_
  rcases ifB_v q2 with ⟨t,q3⟩ | ⟨t,q3⟩
  ·cases tru t
   exact isTrue_and (Sb W h env s true h1 (fun c s'=>if c then wpAny (Cx.M P) C.A (PySem.isTrue (.BoolOp .And (e2::es) pos) C.env whole) Q E s' else Q false s') E S q1 fun W1 s1 X1 S1=>Sr.2 W1 h1 env s1 b h' pos whole Q E S1 q3 fun W2 s2 X2 S2=>g W2 s2 (X1.trans X2 S1.rel) S2)
  ·cases tru t
   cases q3
   exact isTrue_and (Sb W h env s false _ (fun c s'=>if c then wpAny (Cx.M P) C.A (PySem.isTrue (.BoolOp .And (e2::es) pos) C.env whole) Q E s' else Q false s') E S q1 fun W1 s1 X1 S1=>g W1 s1 X1 S1)
theorem rule_or {a r:U} {e e2:Expr} {es:List Expr} (Sa:SndE P C (fun env h=>a cf z env h) e) (Sb:SndB P C (fun env h=>a cf z env h) e) (Sr:SndL P C .Or (fun env h=>r cf z env h) (e2::es)):SndL P C .Or (fun env h=>cOr a r cf z env h) (e::e2::es):=by
 constructor
 ·intro pos W h env s v h' Q E S e1 g
  refine pL fun G0 hG0=>?_
  obtain ⟨x,h1,q1,q2⟩:=bv_v e1
  refine hG0 ?_
  rcases ifB_v q2 with ⟨t,q3⟩ | ⟨t,q3⟩
  ·cases tru t
   refine pL fun G0 hG0=>?_
   (obtain ⟨rfl,rfl⟩:=R.v.inj q3)
   refine hG0 ?_
   refine BoolOp_or (Sa W h env s _ _ _ E S q1 fun W1 s1 y X1 S1 r1=>?_)
   have r2:=r1
   simp only [RV] at r1
   subst r1
   exact wpAny_truthy_bool (g W1 s1 _ X1 S1 r2)
  ·cases tru t
   refine BoolOp_or (Sa W h env s _ h1 _ E S q1 fun W1 s1 y X1 S1 r1=>?_)
   simp only [RV] at r1
   subst r1
   exact wpAny_truthy_bool (Sr.1 pos W1 h1 env s1 v h' Q E S1 q3 (g.step X1 S1.rel))
 ·intro W h env s b h' pos whole Q E S e1 g
  refine pL fun G0 hG0=>?_
  obtain ⟨x,h1,q1,q2⟩:=bv_v e1
  refine hG0 ?_
  rcases ifB_v q2 with ⟨t,q3⟩ | ⟨t,q3⟩
  ·cases tru t
   cases q3
   exact isTrue_or (Sb W h env s true _ (fun c s'=>if c then Q true s' else wpAny (Cx.M P) C.A (PySem.isTrue (.BoolOp .Or (e2::es) pos) C.env whole) Q E s') E S q1 fun W1 s1 X1 S1=>g W1 s1 X1 S1)
  ·cases tru t
   exact isTrue_or (Sb W h env s false h1 (fun c s'=>if c then Q true s' else wpAny (Cx.M P) C.A (PySem.isTrue (.BoolOp .Or (e2::es) pos) C.env whole) Q E s') E S q1 fun W1 s1 X1 S1=>Sr.2 W1 h1 env s1 b h' pos whole Q E S1 q3 fun W2 s2 X2 S2=>g W2 s2 (X1.trans X2 S1.rel) S2)
theorem rule_chain (ok:C.Ok P d) (G:GOk P P.K) {o1 o2:Nat} (ho1:o1≤9) (ho2:o2≤9) {a b c:U} {ea eb ec:Expr} {pos:Pos} (hm:lastMarks [cOf o1,cOf o2] [eb,ec]=false)
  (Sa:SndE P C (fun env h=>a cf z env h) ea) (Sb:SndE P C (fun env h=>b cf z env h) eb) (Sc:SndE P C (fun env h=>c cf z env h) ec) :
  SndE P C (fun env h=>cChain o1 o2 a b c cf z env h) (.Compare ea [cOf o1,cOf o2] [eb,ec] pos)∧SndB P C (fun env h=>cChain o1 o2 a b c cf z env h) (.Compare ea [cOf o1,cOf o2] [eb,ec] pos):=by
 have hu:C.A.units + 120 < cLine:=by have:=ok.units; show C.A.units + 120 < 9900; lia
 constructor
 ·intro W h env s v h' Q E S e g
  refine pL fun G0 hG0=>?_
  obtain ⟨x,h1,e1,e2⟩:=bv_v e
  obtain ⟨y,h2,e3,e4⟩:=bv_v e2
  refine hG0 ?_
  refine Compare_chain (Sa W h env s x h1 _ E S e1 fun W1 s1 u X1 S1 r1=>chain_link (Sb W1 h1 env s1 y h2 _ E S1 e3 fun W2 s2 w X2 S2 r2=>?_)) hm
  obtain ⟨m,F,_⟩:=S2.fr
  rcases ifB_v e4 with ⟨t,q⟩ | ⟨t,q⟩
  ·obtain ⟨v3,h3,q1,q2⟩:=bv_v q
   refine cmp_ok ok.pok S2 (in_keeps ok.x F.keep) G hu (r1.mono X2.L) r2 ho1 t _ fun tk=>wpAny_truthy_bool ?_
   show wpAny _ _ (compareChain pos w [cOf o2] [eval ec C.env]) Q E _
   refine chain_last (Sc W2 h2 env _ v3 h3 _ E (S2.tok tk) q1 fun W3 s3 u3 X3 S3 r3=>?_)
   refine pL fun G0 hG0=>?_
   obtain ⟨m3,F3,_⟩:=S3.fr
   obtain ⟨r,t2,rfl,rfl⟩:=ofB_v q2
   refine hG0 ?_
   exact cmp_ok ok.pok S3 (in_keeps ok.x F3.keep) G hu (r2.mono X3.L) r3 ho2 t2 Q fun t4=>g W3 _ _ ((X1.trans X2 S1.rel).trans X3 S2.rel) (S3.tok t4) (by simp only [RV])
  ·(obtain ⟨rfl,rfl⟩:=R.v.inj q)
   exact cmp_ok ok.pok S2 (in_keeps ok.x F.keep) G hu (r1.mono X2.L) r2 ho1 t _ fun tk=>wpAny_truthy_bool (g W2 _ _ (X1.trans X2 S1.rel) (S2.tok tk) (by simp only [RV]))
 ·intro W h env s bb h' Q E S e g
  refine pL fun G0 hG0=>?_
  obtain ⟨x,h1,e1,e2⟩:=bv_v e
  obtain ⟨y,h2,e3,e4⟩:=bv_v e2
  refine hG0 ?_
  refine isTrue_chain (Sa W h env s x h1 _ E S e1 fun W1 s1 u X1 S1 r1=>test_link (Sb W1 h1 env s1 y h2 _ E S1 e3 fun W2 s2 w X2 S2 r2=>?_)) hm
  obtain ⟨m,F,_⟩:=S2.fr
  rcases ifB_v e4 with ⟨t,q⟩ | ⟨t,q⟩
  ·obtain ⟨v3,h3,q1,q2⟩:=bv_v q
   refine cmp_ok ok.pok S2 (in_keeps ok.x F.keep) G hu (r1.mono X2.L) r2 ho1 t _ fun tk=>wpAny_truthy_bool ?_
   show wpAny _ _ (testChain pos w [cOf o2] [eval ec C.env]) Q E _
   refine test_last (Sc W2 h2 env _ v3 h3 _ E (S2.tok tk) q1 fun W3 s3 u3 X3 S3 r3=>?_)
   refine pL fun G0 hG0=>?_
   obtain ⟨m3,F3,_⟩:=S3.fr
   obtain ⟨r,t2,t5,rfl⟩:=ofB_v q2
   cases t5
   refine hG0 ?_
   exact cmp_ok ok.pok S3 (in_keeps ok.x F3.keep) G hu (r2.mono X3.L) r3 ho2 t2 _ fun t4=>wpAny_truthy_bool (g W3 _ ((X1.trans X2 S1.rel).trans X3 S2.rel) (S3.tok t4))
  ·cases q
   exact cmp_ok ok.pok S2 (in_keeps ok.x F.keep) G hu (r1.mono X2.L) r2 ho1 t _ fun tk=>wpAny_truthy_bool (g W2 _ (X1.trans X2 S1.rel) (S2.tok tk))
end Mine
namespace Mine
variable {P:Pm} {C:Cx} {W W':Wd} {h h':Hp} {env:List V} {s:Shared} {d n:Nat} {cf:CF} {z:V}
noncomputable def NoStar (env:Env) (es:List Expr):Prop:=∀ pre post,es=pre ++ post→(backTo default (starEach post env)).any (·.1)=false
noncomputable def CW (P:Pm) (y:Value):Prop:=∀ (A:Around) (env:Env) (pos:Pos) (es:List Expr) (s:Shared) (Q:Value→Shared→Prop) (E:Value→Shared→Prop),P.K.In s.heap→
 (∀ e es',es=e::es'→starEach es env=(false,eval e env)::starEach es' env∧(backTo pos (starEach es' env)).any (·.1)=false)→
 wpAny (Cx.M P) A (spliced (backTo pos (starEach es env))) (fun vs s₁=>P.K.In s₁.heap∧wpAny (Cx.M P) A (call y vs) Q E s₁) E s→wpAny (Cx.M P) A (callWith pos y [] (backTo pos (starEach es env)) []) Q E s
theorem cw_keep {y:Value} (hk:keepIn P.K y=true):CW P y:=by
 intro A env pos es s Q E X hs k
 induction es using List.casesOn with
 | nil=>
  refine callWith_K0 X hk ?_
  have k:wpAny (Cx.M P) A (pure []) (fun vs s₁=>P.K.In s₁.heap∧wpAny (Cx.M P) A (call y vs) Q E s₁) E s:=k
  intro Γ p hΓ
  exact (k Γ p hΓ).2 Γ p hΓ
 | cons e es=>
  obtain ⟨h1,h2⟩:=hs e es rfl
  exact callWith_K X hk k h1 h2
theorem cw_builtin1 {id:String} {A:Around} {env:Env} {pos:Pos} {e:Expr} {es:List Expr} {s:Shared} {Q:Value→Shared→Prop} {E:Value→Shared→Prop} (h1:starEach (e::es) env=(false,eval e env)::starEach es env) (h2:(backTo pos (starEach es env)).any (·.1)=false)
  (k:wpAny (Cx.M P) A (spliced (backTo pos (starEach (e::es) env))) (fun vs s₁=>wpAny (Cx.M P) A (call (.builtin id) vs) Q E s₁) E s):wpAny (Cx.M P) A (callWith pos (.builtin id) [] (backTo pos (starEach (e::es) env)) []) Q E s:=callWith_builtin1 k h1 h2
theorem onGlb_v {v:V} {k:Nat→R} {x:V} (e:onGlb v k=.v x h'):∃ g,v=.glb g∧k g=.v x h':=by
 induction v using V.casesOn with
 | glb g=>exact ⟨g,rfl,e⟩
 | _=>exact rX e
theorem rule_call (ok:C.Ok P d) (SC:SndCF P d cf) {f as:U} {ef:Expr} {es:List Expr} {pos:Pos} (hs:∀ e es',es=e::es'→starEach es C.env=(false,eval e C.env)::starEach es' C.env∧(backTo pos (starEach es' C.env)).any (·.1)=false)
  (he:eval (.Call ef es [] pos) C.env=(do callWith pos (← eval ef C.env) [] (backTo pos (starEach es C.env)) (backToKw pos (keywordEach [] C.env)))) (cw:∀ env h g h1,f cf z env h=.v (.glb g) h1→CW P (P.gv g))
  (Sf:SndE P C (fun env h=>f cf z env h) ef) (Sa:SndEs P C (fun env h=>as cf z env h) es):SndE P C (fun env h=>cCall f as cf z env h) (.Call ef es [] pos):=by
 intro W h env s v h' Q E S e g
 refine pL fun G0 hG0=>?_
 obtain ⟨x,h1,e1,e2⟩:=bv_v e
 obtain ⟨gg,rfl,e3⟩:=onGlb_v e2
 obtain ⟨xs,h2,e4,e5⟩:=bvs_v e3
 refine hG0 ?_
 refine Call_ (Sf W h env s _ h1 _ E S e1 fun W1 s1 y X1 S1 r1=>?_) he
 simp only [RV] at r1
 subst r1
 obtain ⟨m1,F1,_⟩:=S1.fr
 refine cw env h gg h1 e1 C.A C.env pos es s1 Q E (in_keeps ok.x F1.keep) hs ?_
 refine Sa W1 h1 env s1 xs h2 pos _ E S1 e4 fun W2 s2 vs X2 S2 r2=>?_
 obtain ⟨m2,F2,_⟩:=S2.fr
 exact ⟨in_keeps ok.x F2.keep,SC.1 C ok W2 h2 env s2 gg xs vs v h' Q E S2 r2 e5 (g.step (X1.trans X2 S1.rel) S2.rel)⟩
theorem iadd_ok {A:Around} {E:Value→Shared→Prop} {Q:Value→Shared→Prop} {op:Nat} {a b v:V} {x y:Value} (S:St P C W h env s) (ra:RV P W h.n a x) (rb:RV P W h.n b y) (e:iadd h op a b=.v v h') (g:Go P C W h env h' v Q) :
  wpAny (Cx.M P) A (inplaceOp (opOf op) x y) Q E s:=by
 match op,e with
 | 0,e=>
  induction a using V.casesOn with
  | int i=>
   induction b using V.casesOn with
   | int j=>
    (obtain ⟨rfl,rfl⟩:=R.v.inj e)
    obtain ⟨t,rfl⟩:=rvI ra
    obtain ⟨u,rfl⟩:=rvI rb
    exact _root_.PySem.P.iadd_int (g.here S _ (rvMk _))
   | _=>exact rX e
  | _=>exact rX e
 | k + 1,e=>exact rX e
theorem rule_aug (ok:C.Ok P d) {i op:Nat} {a:U} {x:Str} {ea:Expr} {px pos:Pos} (hx:C.names[i]?=some x) (hc:C.cl.lookup x=none) (Sa:SndE P C (fun env h=>a cf z env h) ea) :
  SndS P C (fun env h=>cAug i op a cf z env h) (.AugAssign (.Name x px) (opOf op) ea pos):=by
 intro W h env s Q E S o
 have key:∃ w,env[i]?=some w∧w≠.ub∧Out P C W h Q ((a cf z env h).bv fun b h=>(iadd h op w b).bv fun y h=>.nx (lset y env i) h):=by
  have o:Out P C W h Q (loc env i fun w=>(a cf z env h).bv fun b h=>(iadd h op w b).bv fun y h=>.nx (lset y env i) h):=o
  unfold loc at o
  rw [nth_get] at o
  induction q:env[i]? using Option.casesOn with
  | none=>rw [q] at o; exact o.elim
  | some w=>
   rw [q] at o
   cases w with
   | ub=>exact o.elim
   | _=>exact ⟨_,rfl,(fun q=>nomatch q),o⟩
 refine pL fun G0 hG0=>?_
 obtain ⟨w,e1,e2,o1⟩:=key
 obtain ⟨b,h1,e3,o2⟩:=Out.bv o1
 obtain ⟨y,h2,e4,o3⟩:=Out.bv o2
 obtain ⟨m,F,Em⟩:=S.fr
 obtain ⟨old,y1,y2⟩:=Em i x w hx e1 e2
 refine hG0 ?_
 have y1:m x=some old:=y1.elim (·.2) fun ⟨c,_,z,_⟩=>by rw [hc] at z; exact oX z
 have hm:=List.mem_of_getElem? hx
 refine wpAny_AugAssign_Name (wpAny_loadName_local ok.kind (ok.loc x hm hc) F.ns y1 ?_)
 refine Sa W h env s b h1 _ E S e3 fun W1 s1 vb X1 S1 r1=>?_
 refine iadd_ok S1 (y2.mono X1.L) r1 e4 fun W2 s2 vy X2 S2 r2=>?_
 exact store_ok ok hx hc S2 r2 fun s3 S3=>o3 W2 s3 (X1.trans X2 S1.rel) S3
end Mine
namespace Mine
variable {P:Pm} {C:Cx} {W W':Wd} {h h':Hp} {env:List V} {s:Shared} {d n:Nat}
theorem ok_under (ok:C.Ok P (d + 1)) (a:Addr) (rest:List Value):Cx.Ok P { C with A:=C.A.under (.builtin "type.__call__" ⟨.ref a::rest,[]⟩) } d:=by
 have e1:(Code.builtin "type.__call__" ⟨.ref a::rest,[]⟩).weight=1:=by rfl
 have e2:(Code.builtin "type.__call__" ⟨.ref a::rest,[]⟩).cUnits=1:=by rfl
 refine ⟨ok.pok,ok.below,?_,ok.x,ok.t,?_,?_,ok.handled,ok.kind,ok.nod,ok.loc,ok.cel,ok.dbg⟩
 ·have e:(C.A.under (.builtin "type.__call__" ⟨.ref a::rest,[]⟩)).frames=C.A.frames:=by
   induction q:C.A.frames using Option.casesOn with
   | none=>simp [Around.under,pushEnvs_eq,q]
   | some l=>(simp [Around.under,pushEnvs_eq,q,Code.envs]; intro _; rfl)
  exact e.trans ok.frames
 ·have:=ok.depth
  show C.A.depth + (Code.builtin "type.__call__" ⟨.ref a::rest,[]⟩).weight + 3 * d≤900
  rw [e1]; lia
 ·have:=ok.units
  show C.A.units + (Code.builtin "type.__call__" ⟨.ref a::rest,[]⟩).cUnits + 8 * d≤9000
  rw [e2]; lia
theorem make_ok {ih:CF} (SC:SndCF P d ih) (CA:ClsAll P) (ok:C.Ok P (d + 1)) {c fi:Nat} {ms:List (Nat×Nat)} (hc:clsT.get c=some ms) (hf:assoc n_init ms=some fi) {args:List V} {vs:List Value} {v:V} {Q:Value→Shared→Prop} {E:Value→Shared→Prop} (S:St P C W h env s) (ra:RVs P W h.n args vs)
  (e:newI h c (fun x h=>(ih (.kd fi) (x::args) h).bv fun w h=>onNone w (.v x h))=.v v h') (g:Go P C W h env h' v Q):wpAny (Cx.M P) C.A (call (.ref (P.ca c)) vs) Q E s:=by
 refine pL fun G0 hG0=>?_
 obtain ⟨e1,e2⟩:=lid_v e
 rw [blt_eq,decide_eq_true_iff] at e1
 have e1:h.n + 1 < 16000000:=e1
 obtain ⟨w,h2,e3,e4⟩:=bv_v e2
 refine hG0 ?_
 have e5:w=.none∧v=.ref (h.n + 1)∧h'=h2:=by
  cases w with
  | none=>(obtain ⟨rfl,rfl⟩:=R.v.inj e4); exact ⟨rfl,rfl,rfl⟩
  | _=>exact rX e4
 refine pL fun G0 hG0=>?_
 obtain ⟨rfl,rfl,rfl⟩:=e5
 have co:=CA c ms hc
 obtain ⟨i1,i2⟩:=co.init fi hf
 obtain ⟨m,F,Em⟩:=S.fr
 refine hG0 ?_
 refine call_of_code (make_K F S.nw (in_keeps ok.x F.keep) co.makes i1 i2 fun x dx hp F' N' l1 l2=>?_)
 have N1:News C.h₀ C.L hp ((dx,dictOf [] 0)::W.ns):=fun p q=>N' p (.tail _ q)
 have L1:=le_add W h.n dx (dictOf [] 0)
 obtain ⟨S1,X1⟩:=S.add (ob:=.ns []) F' Em N1 l1 (by lia) ⟨[],0,.head _,.nil,by simp⟩ s.toks
 have f2:∀ p∈(W.add h.n dx (dictOf [] 0)).ns,p.1 < x:=by
  intro p q
  rcases List.mem_cons.mp q with rfl | q
  ·exact l2
  ·exact Nat.lt_trans (l1 p q) l2
 have si:(W.add h.n dx (dictOf [] 0)).si h.n=dx:=add_si _ _ _ _
 have N2:News C.h₀ C.L hp ((x,instObj (P.ca c) dx)::(W.add h.n dx (dictOf [] 0)).ns):=N'
 have Em2:EnvR P (W.add h.n dx (dictOf [] 0)) (h.add (.ns [])).n C.cl C.names env m:=Em.mono L1
 obtain ⟨S2,X2⟩:=S1.add (ob:=.inst c h.n) F' Em2 N2 f2 e1 ⟨Nat.lt_succ_of_lt (Nat.lt_succ_self _),by
  have z:((W.add h.n dx (dictOf [] 0)).add (h.n + 1) x (instObj (P.ca c) dx)).si h.n=dx:=((le_add _ (h.n + 1) x _).si h.n (Nat.lt_succ_self _)).trans si
  show (x,instObj (P.ca c) (((W.add h.n dx (dictOf [] 0)).add (h.n + 1) x (instObj (P.ca c) dx)).si h.n))∈_
  rw [z]; exact .head _⟩ s.toks
 have X12:=X1.trans X2 S1.rel
 refine codeAny_mono (SC.2 { C with A:=C.A.under (.builtin "type.__call__" ⟨.ref (P.ca c)::vs,[]⟩) } (ok_under ok _ _) _ _ env _ fi _ (.ref x::vs) _ _ (fun v s'=>v=.none∧Q (.ref x) s') E ⟨S2.rel,S2.fr,S2.nw,S2.gens,S2.os⟩ (.cons ?_ (ra.mono X12.L)) e3 ?_) fun r s' zz=>?_
 ·simp only [RV]
  exact ⟨Nat.lt_succ_self _,by rw [show ((W.add h.n dx (dictOf [] 0)).add (h.add (O.ns [])).n x (instObj (P.ca c) dx)).si (h.n + 1)=x from add_si _ _ _ _]⟩
 ·intro W3 s3 y X3 S3 r3
  simp only [RV] at r3
  refine ⟨r3,g W3 s3 _ (X12.trans X3 S2.rel) ⟨S3.rel,S3.fr,S3.nw,S3.gens,S3.os⟩ ?_⟩
  simp only [RV]
  exact ⟨Nat.lt_of_lt_of_le (Nat.lt_succ_self _) X3.L.le,by rw [X3.L.si (h.n + 1) (Nat.lt_succ_self _)]; rw [show ((W.add h.n dx (dictOf [] 0)).add (h.add (O.ns [])).n x (instObj (P.ca c) dx)).si (h.n + 1)=x from add_si _ _ _ _]⟩
 ·rcases r with e | (v | _ | _ | _) <;> exact zz
end Mine
namespace Mine
variable {P:Pm} {C:Cx} {W W':Wd} {h h':Hp} {env:List V} {s:Shared} {d n:Nat} {cf:CF} {z:V}
theorem cw_first {f:Value} (hk:keepIn P.K f=true) {first:List Value} {A:Around} {env:Env} {pos:Pos} {es:List Expr} {s:Shared} {Q:Value→Shared→Prop} {E:Value→Shared→Prop} (X:P.K.In s.heap)
  (hs:∀ e es',es=e::es'→starEach es env=(false,eval e env)::starEach es' env∧(backTo pos (starEach es' env)).any (·.1)=false)
  (k:wpAny (Cx.M P) A (spliced (backTo pos (starEach es env))) (fun vs s₁=>P.K.In s₁.heap∧wpAny (Cx.M P) A (call f (first ++ vs)) Q E s₁) E s):wpAny (Cx.M P) A (callWith pos f first (backTo pos (starEach es env)) []) Q E s:=by
 induction es using List.casesOn with
 | nil=>
  refine callWith_K0 X hk ?_
  have k:wpAny (Cx.M P) A (pure []) (fun vs s₁=>P.K.In s₁.heap∧wpAny (Cx.M P) A (call f (first ++ vs)) Q E s₁) E s:=k
  intro Γ p hΓ
  exact (k Γ p hΓ).2 Γ p hΓ
 | cons e es=>
  obtain ⟨h1,h2⟩:=hs e es rfl
  exact callWith_K X hk k h1 h2
theorem cw_b {id:String} {first:List Value} {A:Around} {env:Env} {pos:Pos} {es:List Expr} {s:Shared} {Q:Value→Shared→Prop} {E:Value→Shared→Prop}
  (hs:∀ e es',es=e::es'→starEach es env=(false,eval e env)::starEach es' env∧(backTo pos (starEach es' env)).any (·.1)=false)
  (k:wpAny (Cx.M P) A (spliced (backTo pos (starEach es env))) (fun vs s₁=>wpAny (Cx.M P) A (call (.builtin id) (first ++ vs)) Q E s₁) E s):wpAny (Cx.M P) A (callWith pos (.builtin id) first (backTo pos (starEach es env)) []) Q E s:=by
 induction es using List.casesOn with
 | nil=>
  refine callWith_builtin rfl (PyProof.Rows.evalArgs_none ?_)
  have k:wpAny (Cx.M P) A (pure []) (fun vs s₁=>wpAny (Cx.M P) A (call (.builtin id) (first ++ vs)) Q E s₁) E s:=k
  intro Γ p hΓ
  exact (k Γ p hΓ) Γ p hΓ
 | cons e es=>
  obtain ⟨h1,h2⟩:=hs e es rfl
  rw [h1] at k ⊢
  exact callWith_builtin (by show (false || (backTo pos (starEach es env)).any (·.1))=false; rw [h2]; rfl) (evalArgs_plain k)
end Mine
namespace Mine
variable {P:Pm} {C:Cx} {W W':Wd} {h h':Hp} {env:List V} {s:Shared} {d n:Nat} {cf:CF} {z:V}
theorem list_nt (its:Array Value) (ep:Nat):¬ Imm (listOf its ep):=ni_cls (T:="list") rfl (by decide) fun y e=>(nomatch e)
theorem list_new (S:St P C W h env s) {a k:Nat} {t:Tr V} (ea:h.t.get a=some (.list k t)) {its its':Array Value} {ep ep' k':Nat} {t':Tr V} (m:(W.si a,listOf its ep)∈W.ns) (hs:its'.size=k') (hle:k'≤100000)
  (hget:∀ i v,i < k'→t'.get i=some v→∃ x,its'[i]?=some x∧RV P W h.n v x) {hp:Heap} {mm:Str→Option Value} (F':Fr C.h₀ C.L hp mm) (Em:EnvR P W h.n C.cl C.names env mm) (N':News C.h₀ C.L hp (setRow (W.si a) (listOf its' ep') W.ns)) (tk:Nat) :
  St P C ⟨W.si,setRow (W.si a) (listOf its' ep') W.ns⟩ (h.set a (.list k' t')) env { s with heap:=hp,toks:=tk }∧Ext W ⟨W.si,setRow (W.si a) (listOf its' ep') W.ns⟩ h (h.set a (.list k' t')):=by
 have nt:=list_nt its ep
 have L:Le W ⟨W.si,setRow (W.si a) (listOf its' ep') W.ns⟩ h.n h.n:=⟨Nat.le_refl _,fun _ _=>rfl,fun b x i z=>setRow_ne (fun w=>nt (by rw [nod_eq S.rel.nod m (w▸z)]; exact i)) z⟩
 have ho:RO P ⟨W.si,setRow (W.si a) (listOf its' ep') W.ns⟩ h.n (.list k' t') (W.si a):=⟨_,ep',setRow_eq m,hs,hle,fun i w hlt hw=>let ⟨z,z1,z2⟩:=hget i w hlt hw; ⟨z,z1,z2.mono L⟩⟩
 obtain ⟨R,X⟩:=S.rel.put (S.rel.obj a _ ea).1 S.rel.lid m nt ho
 exact ⟨⟨R,⟨mm,F',Em.mono X.L⟩,N',S.gens,S.os⟩,X⟩
theorem onB_v {b:Bool} {r:R} {v:V} (e:lid b r=.v v h'):b=true∧r=.v v h':=lid_v e
section
variable {A:Around} {E:Value→Shared→Prop} {Q:Value→Shared→Prop}
theorem append_ok (S:St P C W h env s) {a k:Nat} {t:Tr V} (ea:h.t.get a=some (.list k t)) {x v:V} {y:Value} (rx:RV P W h.n x y) (e:lid (Nat.blt k 100000) (.v .none (h.set a (.list (Nat.succ k) (t.put k x))))=.v v h') (g:Go P C W h env h' v Q) :
  wpAny (Cx.M P) A (call (.builtin "list.append") [.ref (W.si a),y]) Q E s:=by
 refine pL fun G0 hG0=>?_
 obtain ⟨e1,e2⟩:=lid_v e
 (obtain ⟨rfl,rfl⟩:=R.v.inj e2)
 rw [blt_eq,decide_eq_true_iff] at e1
 obtain ⟨_,its,ep,m,hs,hle,hget⟩:=list_at S ea
 obtain ⟨mm,F,Em⟩:=S.fr
 refine hG0 ?_
 refine append_K F S.nw (Upd.ofRow S.rel.nod m) (fun hp F' N'=>?_) (by rw [sizeLine_eq]; lia)
 have key:∀ i w,i < k + 1→(t.put k x).get i=some w→∃ z,(its.push y)[i]?=some z∧RV P W h.n w z:=by
  intro i w hlt hw
  rw [Tr.get_put t x k i (by lia)] at hw
  by_cases q:k=i
  ·rw [if_pos q] at hw; (obtain rfl:=Option.some.inj hw); subst q
   exact ⟨y,by simp [← hs],rx⟩
  ·rw [if_neg q] at hw
   obtain ⟨z,z1,z2⟩:=hget i w (by lia) hw
   exact ⟨z,by rw [Array.getElem?_push,if_neg (by lia)]; exact z1,z2⟩
 obtain ⟨S',X⟩:=list_new (its':=its.push y) (ep':=ep + 1) (k':=k + 1) (t':=t.put k x) S ea m (by simp [hs]) (by lia) key F' Em N' s.toks
 exact g _ _ _ X S' (by simp only [RV])
theorem kl_last_app:∀ (p:List Value) (y:Value),kl_last (p ++ [y])=some (p,y)
 | [],y=>rfl
 | x::p,y=>by
  show (match kl_last (p ++ [y]) with | some (p,y)=>some (x::p,y) | none=>some ([],x))=_
  rw [kl_last_app p y]
theorem pop_ok (S:St P C W h env s) {a k:Nat} {t:Tr V} (ea:h.t.get a=some (.list k t)) {v:V} (e:popL h a k t=.v v h') (g:Go P C W h env h' v Q):wpAny (Cx.M P) A (call (.builtin "list.pop") [.ref (W.si a)]) Q E s:=by
 induction k using Nat.casesOn with
 | zero=>exact rX e
 | succ k=>
  refine pL fun G0 hG0=>?_
  have e:(R.ofO (t.get k) fun v=>.v v (h.set a (.list k t)))=.v v h':=e
  obtain ⟨w,e1,e2⟩:=ofO_v e
  (obtain ⟨rfl,rfl⟩:=R.v.inj e2)
  obtain ⟨_,its,ep,m,hs,hle,hget⟩:=list_at S ea
  obtain ⟨y,y1,y2⟩:=hget k _ (Nat.lt_succ_self _) e1
  obtain ⟨mm,F,Em⟩:=S.fr
  refine hG0 ?_
  have h1:its.toList.length=k + 1:=by simp [hs]
  have hl:its.toList=its.toList.take k ++ [y]:=by
   have h2:its.toList[k]?=some y:=by simpa using y1
   have h3:=(List.take_append_drop k its.toList).symm
   have h4:its.toList.drop k=[y]:=by
    rw [List.drop_eq_getElem_cons (by lia),List.drop_eq_nil_of_le (by lia)]
    rw [List.getElem?_eq_getElem (by lia)] at h2
    (obtain rfl:=Option.some.inj h2); rfl
   rw [h4] at h3
   exact h3
  have key:∀ i w,i < k→t.get i=some w→∃ z,(its.toList.take k).toArray[i]?=some z∧RV P W h.n w z:=by
   intro i w hlt hw
   obtain ⟨z,z1,z2⟩:=hget i w (by lia) hw
   exact ⟨z,by simpa [List.getElem?_take,hlt] using z1,z2⟩
  have hlast:kl_last its.toList=some (its.toList.take k,y):=by
   have:=kl_last_app (its.toList.take k) y
   rw [← hl] at this
   exact this
  refine kl_pop (p:=its.toList.take k) (y:=y) F S.nw hlast (Upd.ofRow S.rel.nod m) (by rw [sizeLine_eq]; lia) fun hp F' N'=>?_
  obtain ⟨S',X⟩:=list_new (its':=(its.toList.take k).toArray) (ep':=ep + 1) (k':=k) (t':=t) S ea m (by simp; lia) (by lia) key F' Em N' s.toks
  exact g _ _ _ X S' (y2.mono X.L)
end
end Mine
namespace Mine
variable {P:Pm} {C:Cx} {W W':Wd} {h h':Hp} {env:List V} {s:Shared} {d n:Nat} {cf:CF} {z:V}
structure NOk (P:Pm):Prop where
 app:P.nm n_append="append"
 pop:P.nm n_pop="pop"
 ext:P.nm n_extend="extend"
 get:P.nm n_get="get"
theorem extend_ok {A:Around} {E:Value→Shared→Prop} {Q:Value→Shared→Prop} (S:St P C W h env s) {a k:Nat} {t:Tr V} (ea:h.t.get a=some (.list k t)) {x v:V} {y:Value} (rx:RV P W h.n x y)
  (e:(lst h x fun _ m u=>R.ofO (toL t k) fun xs=>R.ofO (toL u m) fun ys=>lid (Nat.blt (xs ++ ys).length 100000) (.v .none (h.set a (mkL (xs ++ ys)))))=.v v h') (g:Go P C W h env h' v Q):wpAny (Cx.M P) A (call (.builtin "list.extend") [.ref (W.si a),y]) Q E s:=by
 refine pL fun G0 hG0=>?_
 obtain ⟨b,l,u,rfl,eb,e1⟩:=lst_v e
 obtain ⟨xs,g1,e2⟩:=ofO_v e1
 obtain ⟨ys,g2,e3⟩:=ofO_v e2
 obtain ⟨e4,e5⟩:=lid_v e3
 (obtain ⟨rfl,rfl⟩:=R.v.inj e5)
 rw [blt_eq,decide_eq_true_iff] at e4
 obtain ⟨_,rfl⟩:=rv_ref rx
 obtain ⟨_,i1,ep1,m1,s1,_,q1⟩:=list_at S ea
 obtain ⟨_,i2,ep2,m2,s2,_,q2⟩:=list_at S eb
 have r1:=list_rvs g1 s1 q1
 have r2:=list_rvs g2 s2 q2
 have r:=r1.app r2
 have hl:=r.len
 rw [List.length_append,List.length_append] at hl
 rw [List.length_append] at e4
 simp only [Array.length_toList] at hl
 obtain ⟨mm,F,Em⟩:=S.fr
 refine hG0 ?_
 have key:∀ i w,i < (xs ++ ys).length→(Tr.ofL (xs ++ ys)).get i=some w→∃ z,(i1.toList ++ i2.toList).toArray[i]?=some z∧RV P W h.n w z:=by
  intro i w hlt hw
  rw [ofL_get _ _ (by rw [List.length_append]; lia)] at hw
  obtain ⟨z,z1,z2⟩:=r.get hw
  exact ⟨z,by simpa using z1,z2⟩
 have hsz:((i1.toList ++ i2.toList).toArray).size=(xs ++ ys).length:=by rw [List.size_toArray,List.length_append,List.length_append]; simp; lia
 have hd:¬(!i1.isEmpty && Builtin.List.listTooLong (i1.size + i2.size))=true:=extend_door (by rw [sizeLine_eq]; lia)
 by_cases hz:i2.toList=[]
 ·refine kxn_extend F S.nw m2 hz (Upd.ofRow S.rel.nod m1) hd (by rw [sizeLine_eq]; simp; lia) (by rw [sizeLine_eq]; lia) fun hp F' N'=>?_
  have ei:i1=(i1.toList ++ i2.toList).toArray:=by rw [hz]; simp
  have N2:News C.h₀ C.L hp (setRow (W.si a) (listOf (i1.toList ++ i2.toList).toArray ep1) W.ns):=by rw [← ei]; exact N'
  obtain ⟨S',X⟩:=list_new (t':=Tr.ofL (xs ++ ys)) S ea m1 hsz (by rw [List.length_append]; lia) key F' Em N2 s.toks
  exact g _ _ _ X S' (by simp only [RV])
 ·refine kl_extend (l:=i1.toList ++ i2.toList) F S.nw m2 rfl (by intro q; exact hz (List.eq_nil_of_length_eq_zero q)) (Upd.ofRow S.rel.nod m1) hd (by rw [sizeLine_eq]; simp; lia) (by rw [sizeLine_eq]; lia) fun hp F' N'=>?_
  obtain ⟨S',X⟩:=list_new (t':=Tr.ofL (xs ++ ys)) S ea m1 hsz (by rw [List.length_append]; lia) key F' Em N' s.toks
  exact g _ _ _ X S' (by simp only [RV])
theorem mList_ok {A:Around} {E:Value→Shared→Prop} {Q:Value→Shared→Prop} (S:St P C W h env s) {a j k:Nat} {t:Tr V} (ea:h.t.get a=some (.list k t)) {xs:List V} {v:V} {vs:List Value} (rx:RVs P W h.n xs vs) (e:mList h a j k t xs=.v v h') (g:Go P C W h env h' v Q) :
  (j=n_append→wpAny (Cx.M P) A (call (.builtin "list.append") (.ref (W.si a)::vs)) Q E s)∧(j=n_pop→wpAny (Cx.M P) A (call (.builtin "list.pop") (.ref (W.si a)::vs)) Q E s)∧(j=n_extend→wpAny (Cx.M P) A (call (.builtin "list.extend") (.ref (W.si a)::vs)) Q E s):=by
 unfold mList at e
 refine ⟨fun q=>?_,fun q=>?_,fun q=>?_⟩
 ·subst q
  have e:(match xs with | [x]=>lid (Nat.blt k 100000) (.v .none (h.set a (.list (Nat.succ k) (t.put k x)))) | _=>R.no)=.v v h':=e
  cases rx with
  | nil=>exact rX e
  | cons r rs=>cases rs with
   | nil=>exact append_ok S ea r e g
   | cons _ _=>exact rX e
 ·subst q
  have e:(match xs with | []=>popL h a k t | _=>R.no)=.v v h':=e
  cases rx with
  | nil=>exact pop_ok S ea e g
  | cons r rs=>exact rX e
 ·subst q
  have e:(match xs with | [x]=>(lst h x fun _ m u=>R.ofO (toL t k) fun xs=>R.ofO (toL u m) fun ys=>lid (Nat.blt (xs ++ ys).length 100000) (.v .none (h.set a (mkL (xs ++ ys))))) | _=>R.no)=.v v h':=e
  cases rx with
  | nil=>exact rX e
  | cons r rs=>cases rs with
   | nil=>exact extend_ok S ea r e g
   | cons _ _=>exact rX e
theorem mDict_v {j:Nat} {es:List (V×V)} {xs:List V} {v:V} (e:mDict h j es xs=.v v h'):j=n_get∧h'=h∧∃ x dv q,xs=[x,dv]∧find x es=some q∧v=q.getD dv:=by
 unfold mDict at e
 split at e
 ·rename_i q
  rw [beqD,decide_eq_true_iff] at q
  refine ⟨q,?_⟩
  split at e
  ·rename_i x dv
   obtain ⟨q,e1,e2⟩:=ofO_v e
   induction q using Option.casesOn with
   | none=>(obtain ⟨rfl,rfl⟩:=R.v.inj e2); exact ⟨rfl,_,_,_,rfl,e1,rfl⟩
   | some w=>(obtain ⟨rfl,rfl⟩:=R.v.inj e2); exact ⟨rfl,_,_,_,rfl,e1,rfl⟩
  ·exact rX e
 ·exact rX e
theorem ov_getD {q:Option V} {o:Option Value} {v:V} {y:Value} (r:ORV P W n q o) (r':RV P W n v y):RV P W n (q.getD v) (o.getD y):=by
 cases r with
 | none=>exact r'
 | some r=>exact r
theorem mDict_ok (ok:C.Ok P d) {A:Around} {E:Value→Shared→Prop} {Q:Value→Shared→Prop} (hu:A.units + 120 < cLine) (S:St P C W h env s) {a j:Nat} {es:List (V×V)} (ea:h.t.get a=some (.dict es)) {xs:List V} {v:V} {vs:List Value} (rx:RVs P W h.n xs vs) (e:mDict h j es xs=.v v h') (g:Go P C W h env h' v Q) :
  wpAny (Cx.M P) A (call (.builtin "dict.get") (.ref (W.si a)::vs)) Q E s:=by
 refine pL fun G0 hG0=>?_
 obtain ⟨rfl,rfl,x,dv,q,rfl,e1,rfl⟩:=mDict_v e
 refine hG0 ?_
 cases rx with
 | cons r1 rs=>cases rs with
  | cons r2 rs=>cases rs with
   | nil=>
    refine pL fun G0 hG0=>?_
    obtain ⟨ys,c,lo,Vw,ov⟩:=dict_view ok.pok S ea r1 e1
    refine hG0 ?_
    exact dv_get Vw lo (by lia) fun t=>g.here S t (ov_getD ov r2)
theorem mTab_ok (ok:C.Ok P d) {A:Around} {E:Value→Shared→Prop} {Q:Value→Shared→Prop} (hu:A.units + 120 < cLine) (S:St P C W h env s) {j:Nat} {es:List (V×V)} {y:Value} (gr:GR P P.K (.tab es) y) {xs:List V} {v:V} {vs:List Value} (rx:RVs P W h.n xs vs) (e:mDict h j es xs=.v v h') (g:Go P C W h env h' v Q) :
  wpAny (Cx.M P) A (call (.builtin "dict.get") (y::vs)) Q E s:=by
 refine pL fun G0 hG0=>?_
 obtain ⟨rfl,rfl,x,dv,q,rfl,e1,rfl⟩:=mDict_v e
 refine hG0 ?_
 cases rx with
 | cons r1 rs=>cases rs with
  | cons r2 rs=>cases rs with
   | nil=>
    refine pL fun G0 hG0=>?_
    obtain ⟨m,F,_⟩:=S.fr
    obtain ⟨b,ys,c,rfl,lo,Vw,ov⟩:=tab_view ok.pok S (in_keeps ok.x F.keep) gr r1 e1
    refine hG0 ?_
    exact dv_get Vw lo (by lia) fun t=>g.here S t (ov_getD ov r2)
end Mine
namespace Mine
variable {P:Pm} {C:Cx} {W W':Wd} {h h':Hp} {env:List V} {s:Shared} {d n:Nat} {cf:CF} {z:V}
theorem mName3_or {k:Nat} (e:mName3 k=true):k=n_append∨k=n_pop∨k=n_extend:=by
 unfold mName3 at e
 split at e
 ·rename_i q; rw [beqD,decide_eq_true_iff] at q; exact .inl q
 ·split at e
  ·rename_i q; rw [beqD,decide_eq_true_iff] at q; exact .inr (.inl q)
  ·rw [beqD,decide_eq_true_iff] at e; exact .inr (.inr e)
theorem isN_eq {α:Type} {o:Option α} (e:isN o=true):o=none:=by
 induction o using Option.casesOn with
 | none=>rfl
 | some _=>exact bX e
theorem dict_noDict (S:St P C W h env s) {b:Addr} {o:Obj} (hg:s.heap.get? b=some o) (hd:o.dict=none):∀ a,Value.ref b=.ref a→∃ o,s.heap.get? a=some o∧o.dict=none:=fun a e=>by cases e; exact ⟨_,hg,hd⟩
theorem nBt {a b:Nat} (h:Nat.beq a b=true):a=b:=Nat.eq_of_beq_eq_true h
theorem mTag_e {k:Nat} {ov:V} {kk:MT→R} {v:V} {G:Prop} (e:mTag h k ov kk=.v v h')
  (c1:∀ a c d ms f es,ov=.ref a→h.t.get a=some (.inst c d)→clsT.get c=some ms→assoc k ms=some f→h.t.get d=some (.ns es)→assoc k es=none→kk (.fn f)=.v v h'→G)
  (c2:∀ a n t,ov=.ref a→h.t.get a=some (.list n t)→mName3 k=true→kk (.l a)=.v v h'→G)
  (c3:∀ a es,ov=.ref a→h.t.get a=some (.dict es)→k=n_get→kk (.d a)=.v v h'→G)
  (c4:∀ g es,ov=.glb g→glbT.get g=some (.tab es)→k=n_get→kk (.g es)=.v v h'→G):G:=by
 suffices z:∀ u,u=ov→mTag h k u kk=.v v h'→G from z ov rfl e
 intro u hu
 induction u using V.casesOn with
 | ref a=>
  intro e
  obtain ⟨ob,ea,e⟩:=ofO_v e
  revert e
  induction ob using O.casesOn with
  | inst c d=>
   intro e
   obtain ⟨ms,e4,e⟩:=ofO_v e
   obtain ⟨f,e6,e⟩:=ofO_v e
   obtain ⟨fs,ed,e⟩:=nsO_v e
   have e:=ifT_v e
   exact c1 a c d ms f fs hu.symm ea e4 e6 ed (isN_eq e.1) e.2
  | list n t=>exact fun e=>c2 a n t hu.symm ea (ifT_v e).1 (ifT_v e).2
  | dict es=>exact fun e=>c3 a es hu.symm ea (nBt (ifT_v e).1) (ifT_v e).2
  | _=>exact fun e=>rX e
 | glb g=>
  intro e
  obtain ⟨q,eg,e⟩:=ofO_v e
  revert e
  induction q using Mine.G.casesOn with
  | tab fs=>exact fun e=>c4 g fs hu.symm eg (nBt (ifT_v e).1) (ifT_v e).2
  | _=>exact fun e=>rX e
 | _=>exact fun e=>rX e
theorem mRun_l {cf:CF} {k a:Nat} {ov v:V} {xs:List V} (e:mRun cf k ov xs h (.l a)=.v v h'):∃ n t,h.t.get a=some (.list n t)∧mList h a k n t xs=.v v h':=by
 obtain ⟨ob,ea,e⟩:=ofO_v e
 revert e
 induction ob using O.casesOn with
 | list n t=>exact fun e=>⟨n,t,ea,e⟩
 | _=>exact fun e=>rX e
theorem mRun_d {cf:CF} {k a:Nat} {ov v:V} {xs:List V} (e:mRun cf k ov xs h (.d a)=.v v h'):∃ es,h.t.get a=some (.dict es)∧mDict h k es xs=.v v h':=by
 obtain ⟨ob,ea,e⟩:=ofO_v e
 revert e
 induction ob using O.casesOn with
 | dict es=>exact fun e=>⟨es,ea,e⟩
 | _=>exact fun e=>rX e
theorem rule_meth (ok:C.Ok P d) (CA:ClsAll P) (G:GOk P P.K) (N:NOk P) (SC:SndCF P d cf) {o as:U} {k:Nat} {eo:Expr} {es:List Expr} {apos pos:Pos} {pl:Sem Bool}
  (hs:∀ e es',es=e::es'→starEach es C.env=(false,eval e C.env)::starEach es' C.env∧(backTo pos (starEach es' C.env)).any (·.1)=false)
  (he:eval (.Call (.Attribute eo (P.nm k) apos) es [] pos) C.env=(do
   let ov ← eval eo C.env
   standAt apos.atName
   let (f,first) ← holding [ov] (getMethod ov (P.nm k) pl)
   callWith pos f first (backTo pos (starEach es C.env)) (backToKw pos (keywordEach [] C.env))))
  (So:SndE P C (fun env h=>o cf z env h) eo) (Sa:SndEs P C (fun env h=>as cf z env h) es):SndE P C (fun env h=>cMeth o k as cf z env h) (.Call (.Attribute eo (P.nm k) apos) es [] pos):=by
 intro W h env s v h' Q E S e g
 have hu:C.A.units + 120 < cLine:=by have:=ok.units; show C.A.units + 120 < 9900; lia
 obtain ⟨ov,h1,e1,e2⟩:=bv_v e
 refine methodCall_KW (So W h env s ov h1 _ E S e1 fun W1 s1 y X1 S1 r1=>?_) he
 obtain ⟨m1,F1,_⟩:=S1.fr
 have X:=in_keeps ok.x F1.keep
 have gg:=g.step X1 S1.rel
 have run:∀ (tg:MT) (id:String) (first:Value),((as cf z env h1).bvs fun xs h=>mRun cf k ov xs h tg)=.v v h'→
   (∀ W2 h2 s2 xs vs,Ext W1 W2 h1 h2→St P C W2 h2 env s2→RVs P W2 h2.n xs vs→mRun cf k ov xs h2 tg=.v v h'→Go P C W2 h2 env h' v Q→wpAny (Cx.M P) C.A (call (.builtin id) (first::vs)) Q E s2)→
   wpAny (Cx.M P) C.A (callWith pos (.builtin id) [first] (backTo pos (starEach es C.env)) (backToKw pos (keywordEach [] C.env))) Q E s1:=by
  intro tg id first e3 k2
  refine pL fun G0 hG0=>?_
  obtain ⟨xs,h2,e4,e5⟩:=bvs_v e3
  refine hG0 ?_
  refine cw_b hs (Sa W1 h1 env s1 xs h2 pos _ E S1 e4 fun W2 s2 vs X2 S2 r2=>?_)
  exact k2 W2 h2 s2 xs vs X2 S2 r2 e5 (gg.step X2 S2.rel)
 refine mTag_e e2 (fun a c dd ms f fs ho ea e4 e6 ed e9 e10=>?_) (fun a q t ho ea e4 e5=>?_) (fun a fs ho ea e4 e5=>?_) (fun gi fs ho eg e4 e5=>?_)
 ·clear run
  rw [ho] at r1
  refine pL fun G0 hG0=>?_
  obtain ⟨la,ry⟩:=rv_ref r1
  obtain ⟨xs,h2,e11,e12⟩:=bvs_v e10
  have co:=CA c ms e4
  obtain ⟨ds,ep,ld,md,Rn,hl,I⟩:=inst_at S1 ea ed
  obtain ⟨c1,c2,c3⟩:=co.meth k f e6
  have n2:getL (P.nm k) ds=some none:=(rn_get ok.pok Rn k).elim (fun z=>z.2) fun ⟨_,_,z,_⟩=>oX (e9.symm.trans z)
  refine hG0 ?_
  rw [ry]
  refine method_inst F1 ok.x I (co.get _) c1 c2 n2 ?_
  refine cw_first c3 X hs (Sa W1 h1 env s1 xs h2 pos _ E S1 e11 fun W2 s2 vs X2 S2 r2=>?_)
  obtain ⟨m2,F2,_⟩:=S2.fr
  refine ⟨in_keeps ok.x F2.keep,?_⟩
  have e12:cf (.kd f) (ov::xs) h2=.v v h':=e12
  refine call_of_code (SC.2 C ok W2 h2 env s2 f _ _ v h' Q E S2 (.cons ?_ r2) e12 (gg.step X2 S2.rel))
  rw [ho,← ry]
  exact r1.mono X2.L
 ·rw [ho] at r1
  refine pL fun G0 hG0=>?_
  obtain ⟨la,ry⟩:=rv_ref r1
  obtain ⟨_,its,ep,m,hs',hle,hget⟩:=list_at S1 ea
  have fin:∀ W2 h2 s2 xs vs,Ext W1 W2 h1 h2→St P C W2 h2 env s2→RVs P W2 h2.n xs vs→mRun cf k ov xs h2 (.l a)=.v v h'→Go P C W2 h2 env h' v Q→
    (k=n_append→wpAny (Cx.M P) C.A (call (.builtin "list.append") (.ref (W1.si a)::vs)) Q E s2)∧(k=n_pop→wpAny (Cx.M P) C.A (call (.builtin "list.pop") (.ref (W1.si a)::vs)) Q E s2)∧(k=n_extend→wpAny (Cx.M P) C.A (call (.builtin "list.extend") (.ref (W1.si a)::vs)) Q E s2):=by
   intro W2 h2 s2 xs vs X2 S2 r2 e6 g2
   rw [← X2.L.si a la]
   obtain ⟨q2,t2,ea2,e7⟩:=mRun_l e6
   exact mList_ok S2 ea2 r2 e7 g2
  refine hG0 ?_
  rw [ry]
  rcases mName3_or e4 with hk | hk | hk
  ·rw [hk,N.app]
   exact kl_method S1.nw m slot_list_append PySem.F.type_list_append (run _ _ _ e5 fun W2 h2 s2 xs vs X2 S2 r2 e6 g2=>(fin W2 h2 s2 xs vs X2 S2 r2 e6 g2).1 hk)
  ·rw [hk,N.pop]
   exact kl_method S1.nw m PySem.F.slot_list_pop PySem.F.type_list_pop (run _ _ _ e5 fun W2 h2 s2 xs vs X2 S2 r2 e6 g2=>(fin W2 h2 s2 xs vs X2 S2 r2 e6 g2).2.1 hk)
  ·rw [hk,N.ext]
   exact kl_method S1.nw m PySem.F.slot_list_extend PySem.F.type_list_extend (run _ _ _ e5 fun W2 h2 s2 xs vs X2 S2 r2 e6 g2=>(fin W2 h2 s2 xs vs X2 S2 r2 e6 g2).2.2 hk)
 ·rw [ho] at r1
  refine pL fun G0 hG0=>?_
  obtain ⟨la,ry⟩:=rv_ref r1
  obtain ⟨_,xs',ep,m,D⟩:=S1.rel.at ea
  refine hG0 ?_
  rw [ry,e4,N.get]
  refine getMethod_builtin ⟨_,S1.nw.get m,rfl⟩ PySem.F.plainAttrs_dict PySem.F.slot_dict_get PySem.F.type_dict_get (dict_noDict S1 (S1.nw.get m) rfl) (run _ _ _ e5 fun W2 h2 s2 xs vs X2 S2 r2 e6 g2=>?_)
  obtain ⟨es2,ea2,e7⟩:=mRun_d e6
  rw [← X2.L.si a la]
  exact mDict_ok ok hu S2 ea2 r2 e7 g2
 ·rw [ho] at r1
  have r1:y=P.gv gi:=r1
  refine pL fun G0 hG0=>?_
  have gr:=G gi _ eg
  obtain ⟨b,ys,ep,eb,hlk,lo,hd⟩:=id gr
  have hb:=X _ _ hlk
  refine hG0 ?_
  rw [r1,e4,N.get,eb]
  refine getMethod_builtin ⟨_,hb,rfl⟩ PySem.F.plainAttrs_dict PySem.F.slot_dict_get PySem.F.type_dict_get (dict_noDict S1 hb rfl) (run _ _ _ e5 fun W2 h2 s2 xs vs X2 S2 r2 e6 g2=>?_)
  rw [← eb]
  exact mTab_ok ok hu S2 gr r2 e6 g2
end Mine
namespace Mine
theorem noFill_tuple_mul:fillsNumberSlot (.type "tuple") "mul"=pure false:=
 _root_.PySem.fillsNumberSlot_seq (id:="tuple.__mul__") (r:=some (.builtin "tuple.__rmul__")) F.slot_tuple_mul.lookup (by decide +kernel) F.slot_tuple_rmul.lookup (by decide +kernel)
theorem repeat_tuple:seqRepeat? (.type "tuple")=pure (some (.builtin "tuple.__mul__")):=by
 unfold seqRepeat?
 rw [_root_.PySem.seqSlot_of (T:="tuple") (name:="__mul__") (id:="tuple.__mul__") F.slot_tuple_mul.lookup (by decide +kernel),_root_.PySem.seqSlot_of (T:="tuple") (name:="__rmul__") (id:="tuple.__rmul__") F.slot_tuple_rmul.lookup (by decide +kernel)]
 rfl
theorem rmul_tuple (a:Int) (t:Tok) (l:Addr) (items:Array Value) (n:Nat) :
  Meets (Builtin.«int.__rmul__» ⟨[.int a t,.ref l],[]⟩) (fun _ R s=>s.heap.get? l=some { cls:=.type "tuple",dict:=none,data:=.seq items n,slots:=#[] }∧R (.ok (.ret Value.notImplemented)) s):=
 .of_wp fun prog w A R s h=>by obtain ⟨hp,g,d,tk,os⟩:=s; obtain ⟨hl,h⟩:=h; wp_walk; exact ⟨_,rfl,h⟩
theorem tmul_one (l:Addr) (items:Array Value) (n:Nat) (u:Tok) :
  Meets (Builtin.«tuple.__mul__» ⟨[.ref l,.int 1 u],[]⟩) (fun _ R s=>s.heap.get? l=some { cls:=.type "tuple",dict:=none,data:=.seq items n,slots:=#[] }∧R (.ok (.ret (.ref l))) s):=
 .of_wp fun prog w A R s h=>by obtain ⟨hp,g,d,tk,os⟩:=s; obtain ⟨hl,h⟩:=h; wp_walk; exact ⟨_,rfl,h⟩
theorem tmul_zero (l:Addr) (items:Array Value) (n:Nat) (u:Tok) (he:items.isEmpty=false) :
  Meets (Builtin.«tuple.__mul__» ⟨[.ref l,.int 0 u],[]⟩) (fun _ R s=>s.heap.get? l=some { cls:=.type "tuple",dict:=none,data:=.seq items n,slots:=#[] }∧R (.ok (.ret (Value.ref s.heap.objs.size))) { s with heap:=s.heap.push { cls:=Value.type "tuple",data:=Data.seq #[] },toks:=s.toks }):=
 .of_wp fun prog w A R s h=>by obtain ⟨hp,g,d,tk,os⟩:=s; obtain ⟨hl,h⟩:=h; wp_walk; exact ⟨_,rfl,h⟩
theorem tmul_two (l:Addr) (items:Array Value) (n:Nat) (u:Tok) (h1:¬(items.isEmpty || (2:Int) == 1)=true) (h2:¬(decide ((2:Int)≤0) || items.isEmpty)=true) (h3:¬items.size * (2:Int) > (2 ^ 63 - 1) / 8) (h4:¬Builtin.Tuple.tupleTooMany (items.size * (2:Int))=true) (hsz:¬(List.foldl (fun x1 x2=>x1 ++ x2) #[] (List.replicate (2:Int).toNat items)).size > sizeLine) :
  Meets (Builtin.«tuple.__mul__» ⟨[.ref l,.int 2 u],[]⟩) (fun _ R s=>s.heap.get? l=some { cls:=.type "tuple",dict:=none,data:=.seq items n,slots:=#[] }∧R (.ok (.ret (Value.ref s.heap.objs.size))) { s with heap:=s.heap.push { cls:=Value.type "tuple",data:=Data.seq (List.foldl (fun x1 x2=>x1 ++ x2) #[] (List.replicate (2:Int).toNat items)) },toks:=s.toks }):=
 .of_wp fun prog w A R s h=>by
  obtain ⟨hp,g,d,tk,os⟩:=s; obtain ⟨hl,h⟩:=h
  wp_walk
  rw [if_neg h1]
  wp_walk
  rw [if_neg h2]
  wp_walk
  rw [if_neg h3]
  wp_walk
  rw [if_neg hsz]
  wp_walk
  exact ⟨_,rfl,h⟩
theorem tup_mul {P:Pm} {A:Around} {E:Value→Shared→Prop} {Q:Value→Shared→Prop} {s:Shared} {l:Addr} {items:Array Value} {x:Int} {u:Tok} (hl:s.heap.get? l=some { cls:=.type "tuple",data:=.seq items })
  (k:wpAny (Cx.M P) A (call (.builtin "tuple.__mul__") [.ref l,.int x u]) Q E s):wpAny (Cx.M P) A (binaryOp .Mult (.ref l) (.int x u)) Q E s:=
 wpAny_binaryOp_repeat_ref (T:="tuple") (U:="int") (by decide) ⟨_,hl,rfl⟩ (fun s'=>typeIs_int s' x u) noFill_tuple_mul F.fills_int_mul F.slot_int_rmul repeat_tuple F.slot_int_index.lookup
  (call_meets F.slot_int_rmul (typeIs_int s x u) F.entry_int_rmul (F.args_int_rmul_2 _ _) (rmul_tuple x u l items 0) ⟨hl,rfl,⟨_,hl,rfl⟩,k⟩)
variable {P:Pm} {C:Cx} {W W':Wd} {h h':Hp} {env:List V} {s:Shared} {d n:Nat}
theorem bad_ref (S:St P C W h env s) {Q:Value→Shared→Prop} (g:Go P C W h env h .bad Q) (a:Addr):Q (.ref a) s:=g.now S (by simp only [RV])
theorem bad_new (S:St P C W h env s) {Q:Value→Shared→Prop} (g:Go P C W h env h .bad Q) (o:Obj) (hf:o.isFreed=false):Q (.ref s.heap.objs.size) { s with heap:=s.heap.push o }:=by
 obtain ⟨m,F,Em⟩:=S.fr
 have f:∀ p∈W.ns,p.1 < s.heap.objs.size:=fun p hp=>Heap.lt_size (S.nw p hp).1
 obtain ⟨S',X⟩:=S.raw (F.push _) Em (News.push (hfree:=hf) F S.nw o) f s.toks
 exact g _ _ _ X S' (by simp only [RV])
theorem bin_tupMul (S:St P C W h env s) {A:Around} {E:Value→Shared→Prop} {Q:Value→Shared→Prop} {op:Nat} {i:Int} {a b:V} {x y:Value} {v:V} (ra:RV P W h.n (.tc a b) x) (rb:RV P W h.n (.int i) y) (e:binTI h op (.tc a b) i=.v v h') (g:Go P C W h env h' v Q) :
  wpAny (Cx.M P) A (binaryOp (opOf op) x y) Q E s:=by
 match op,e with
 | 2,e=>
  obtain ⟨xs,e1,e2⟩:=ofO_v (o:=tupL (.tc a b)) e
  obtain ⟨l,ys,rfl,m,rs,rt⟩:=tupL_rv e1 ra
  obtain ⟨u,rfl⟩:=rvI rb
  have hl:=S.nw.get m
  have hlen:=rs.len
  have hne:ys≠[]:=by
   intro q
   subst q
   simp only [RT] at rt
   obtain ⟨_,_,q,_⟩:=rt
   exact lX q
  have hem:ys.toArray.isEmpty=false:=by simpa using hne
  induction i using Int.casesOn with
  | negSucc j=>exact rX e2
  | ofNat k=>
   obtain ⟨q,e3⟩:=ifT_v e2
   (obtain ⟨rfl,rfl⟩:=R.v.inj e3)
   obtain ⟨q1,q2,_⟩:=b3_eq.mp q
   rw [blt_eq,decide_eq_true_iff] at q1 q2
   refine tup_mul (items:=ys.toArray) hl ?_
   have hsz:ys.toArray.size < 1000:=by rw [List.size_toArray]; lia
   match k,q2 with
   | 0,_=>exact call_meets F.slot_tuple_mul ⟨_,hl,rfl⟩ F.entry_tuple_mul (F.args_tuple_mul_2 _ _) (tmul_zero l ys.toArray 0 u hem) ⟨hl,bad_new S g _ rfl⟩
   | 1,_=>exact call_meets F.slot_tuple_mul ⟨_,hl,rfl⟩ F.entry_tuple_mul (F.args_tuple_mul_2 _ _) (tmul_one l ys.toArray 0 u) ⟨hl,bad_ref S g _⟩
   | 2,_=>
    refine call_meets F.slot_tuple_mul ⟨_,hl,rfl⟩ F.entry_tuple_mul (F.args_tuple_mul_2 _ _) (tmul_two l ys.toArray 0 u (by rw [hem]; decide) (by rw [hem]; decide) (by lia) ?_ ?_) ⟨hl,bad_new S g _ rfl⟩
    ·unfold Builtin.Tuple.tupleTooMany
     rw [sizeLine_eq]
     simp only [decide_eq_true_eq]
     lia
    ·rw [sizeLine_eq,AutoListH.size_joined]
     simp only [Array.size_empty]
     show ¬0 + 2 * ys.toArray.size > _
     lia
   | k + 3,q2=>lia
 | 0,e=>exact rX e
 | 1,e=>exact rX e
 | k + 3,e=>exact rX e
end Mine
namespace Mine
variable {P:Pm} {C:Cx} {W W':Wd} {h h':Hp} {env:List V} {s:Shared} {d n:Nat} {cf:CF} {z:V}
theorem noV {v:V} {α:Prop} (e:R.no=.v v h'):α:=nomatch e
theorem bin_ok (ok:POk P) (S:St P C W h env s) {A:Around} {E:Value→Shared→Prop} {Q:Value→Shared→Prop} {op:Nat} (hop:op≤5) {a b v:V} {x y:Value} (ra:RV P W h.n a x) (rb:RV P W h.n b y) (e:binop h op a b=.v v h') (g:Go P C W h env h' v Q) :
  wpAny (Cx.M P) A (binaryOp (opOf op) x y) Q E s:=by
 induction a using V.casesOn with
 | int i=>
  obtain ⟨t,rfl⟩:=rvI ra
  induction b using V.casesOn with
  | int j=>
   obtain ⟨u,rfl⟩:=rvI rb
   have e:binI h op i j=.v v h':=e
   exact (Mine.bin_int S hop e g).out
  | si q=>
   obtain ⟨u,hu⟩:=rvS rb
   have e:binS' h op i q=.v v h':=e
   generalize hz:q.val P=z at hu
   subst hu
   exact (Mine.bin_si' hz.symm S e g).out
  | _=>exact noV e
 | si q=>
  obtain ⟨t,hu⟩:=rvS ra
  induction b using V.casesOn with
  | int j=>
   obtain ⟨u,rfl⟩:=rvI rb
   have e:binS h op q j=.v v h':=e
   generalize hz:q.val P=z at hu
   subst hu
   exact (Mine.bin_si ok hz.symm S e g).out
  | _=>exact noV e
 | str k=>
  induction b using V.casesOn with
  | dyn=>
   have e:(match op with | 0=>ifT (Nat.blt k 1000) (R.v .bad h) | _=>R.no)=.v v h':=e
   simp only [RV] at ra rb
   obtain ⟨t,rfl⟩:=ra
   obtain ⟨q,u,rfl,hl⟩:=rb
   split at e
   ·obtain ⟨q9,e⟩:=ifT_v e
    cases e
    rw [blt_eq,decide_eq_true_iff] at q9
    have h1:=ok.nml k q9
    exact PyProof.Rows.add_str (fun t' tk=>g.here S _ (by simp only [RV])) (by rw [sizeLine_eq]; lia)
   ·cases e
  | _=>exact noV e
 | ref i=>
  induction b using V.casesOn with
  | ref j=>
   have e:binR h op (.ref i) (.ref j)=.v v h':=e
   exact bin_list (op:=op) S ra rb e g
  | int j=>
   have e:binM h op (.ref i) j=.v v h':=e
   exact bin_listMul (op:=op) S ra rb e g
  | _=>exact noV e
 | tc p q=>
  induction b using V.casesOn with
  | int j=>
   have e:binTI h op (.tc p q) j=.v v h':=e
   exact bin_tupMul (op:=op) S ra rb e g
  | _=>exact noV e
 | _=>exact noV e
theorem rule_binop (ok:C.Ok P d) {op:Nat} (hop:op≤5) {a b:U} {ea eb:Expr} {pos:Pos} (Sa:SndE P C (fun env h=>a cf z env h) ea) (Sb:SndE P C (fun env h=>b cf z env h) eb) :
  SndE P C (fun env h=>cBin op a b cf z env h) (.BinOp ea (opOf op) eb pos):=
 rule_bin Sa Sb fun W h env s x y u w v h' Q E S r1 r2 e g=>bin_ok ok.pok S hop r1 r2 e g
end Mine
namespace Mine
variable {P:Pm} {C:Cx} {W W' W0:Wd} {h h' h0:Hp} {env:List V} {s:Shared} {d n:Nat} {cf:CF} {z:V}
structure LI (W0:Wd) (h0:Hp) (W:Wd) (h:Hp) (I:Addr) (o:Obj):Prop where
 ext:Ext W0 W h0 h
 row:(I,o)∈W.ns
 ni:∀ j,j < h.n→W.si j≠I
 old:I∉W0.ns.map (·.1)
theorem LI.step {I:Addr} {o:Obj} (l:LI W0 h0 W h I o) (r:Rel P W h) (X:Ext W W' h h') (r':Rel P W' h'):LI W0 h0 W' h' I o:=by
 have hn:∀ j,j < h'.n→W'.si j≠I:=by
  intro j hj
  by_cases q:j < h.n
  ·rw [X.L.si j q]; exact l.ni j q
  ·intro e
   exact X.new j (by lia) hj (e▸mem_fst l.row)
 exact ⟨l.ext.trans X r,X.keep _ _ l.row fun i hi=>hn i (r'.wr i hi),hn,l.old⟩
theorem LI.set {I:Addr} {o o':Obj} (l:LI W0 h0 W h I o) (r:Rel P W h) (ht:¬ Imm o):Rel P ⟨W.si,setRow I o' W.ns⟩ h∧LI W0 h0 ⟨W.si,setRow I o' W.ns⟩ h I o'∧Le W ⟨W.si,setRow I o' W.ns⟩ h.n h.n:=by
 have L:Le W ⟨W.si,setRow I o' W.ns⟩ h.n h.n:=⟨Nat.le_refl _,fun _ _=>rfl,fun b x i q=>setRow_ne (fun e=>ht (by rw [nod_eq r.nod l.row (e▸q)]; exact i)) q⟩
 refine ⟨⟨by show ((setRow _ _ _).map _).Nodup; rw [setRow_fst]; exact r.nod,r.inj,fun b x e=>?_,fun b lb=>by show _∈(setRow _ _ _).map _; rw [setRow_fst]; exact r.dom b lb,r.res,r.wr,fun p hp=>?_,fun z=>?_,r.lid⟩,⟨⟨?_,l.ext.rs,l.ext.wr,?_,l.ext.new,?_⟩,setRow_eq l.row,l.ni,l.old⟩,L⟩
 ·obtain ⟨z1,z2⟩:=r.obj b x e
  exact ⟨z1,z2.mono L fun y q=>setRow_ne (l.ni b z1) q⟩
 ·obtain ⟨x,hx,e⟩:=fst_mem' (mem_fst' hp)
  exact e▸r.low x hx
 ·have q:(setRow I o' W.ns).map (·.1)=[]:=by rw [show setRow I o' W.ns=[] from z]; rfl
  rw [setRow_fst] at q
  exact r.non (List.map_eq_nil_iff.mp q)
 ·exact l.ext.L.trans L
 ·intro a q; show _∈(setRow _ _ _).map _; rw [setRow_fst]; exact l.ext.dom a q
 ·intro b x q k
  have z:=l.ext.keep b x q k
  exact setRow_ne (fun e=>l.old (e▸mem_fst q)) z
noncomputable def dropRow (I:Addr) (l:List (Addr×Obj)):List (Addr×Obj):=l.filter fun p=>decide (p.1≠I)
theorem dropRow_mem {I b:Addr} {x:Obj} {l:List (Addr×Obj)} (hb:b≠I) (m:(b,x)∈l):(b,x)∈dropRow I l:=List.mem_filter.mpr ⟨m,decide_eq_true hb⟩
theorem dropRow_sub {I:Addr} {p:Addr×Obj} {l:List (Addr×Obj)} (m:p∈dropRow I l):p∈l∧p.1≠I:=⟨(List.mem_filter.mp m).1,of_decide_eq_true (List.mem_filter.mp m).2⟩
theorem LI.drop {I:Addr} {o:Obj} (l:LI W0 h0 W h I o) (r:Rel P W h) (r0:Rel P W0 h0) (ht:¬ Imm o):Rel P ⟨W.si,dropRow I W.ns⟩ h∧Ext W0 ⟨W.si,dropRow I W.ns⟩ h0 h∧Le W ⟨W.si,dropRow I W.ns⟩ h.n h.n:=by
 have L:Le W ⟨W.si,dropRow I W.ns⟩ h.n h.n:=⟨Nat.le_refl _,fun _ _=>rfl,fun b x i q=>dropRow_mem (fun e=>ht (by rw [nod_eq r.nod l.row (e▸q)]; exact i)) q⟩
 have dm:∀ a,a∈W.ns.map (·.1)→a≠I→a∈(dropRow I W.ns).map (·.1):=fun a q e=>let ⟨x,hx⟩:=fst_mem q; mem_fst (dropRow_mem e hx)
 refine ⟨⟨?_,r.inj,fun b x e=>?_,fun b lb=>dm _ (r.dom b lb) (l.ni b lb),r.res,r.wr,fun p hp=>r.low p (dropRow_sub hp).1,fun z=>?_,r.lid⟩,⟨l.ext.L.trans L,l.ext.rs,l.ext.wr,fun a q=>?_,fun i a b=>l.ext.new i a b,fun b x q k=>?_⟩,L⟩
 ·show ((dropRow I W.ns).map (·.1)).Nodup
  exact r.nod.sublist (List.filter_sublist.map _)
 ·obtain ⟨z1,z2⟩:=r.obj b x e
  exact ⟨z1,z2.mono L fun y q=>dropRow_mem (l.ni b z1) q⟩
 ·induction q:W0.ns using List.casesOn with
  | nil=>exact r0.non q
  | cons p t=>
   have hp:p.1∈W0.ns.map (·.1):=by rw [q]; exact .head _
   have:=dm _ (l.ext.dom _ hp) (fun e=>l.old (e▸hp))
   have z:dropRow I W.ns=[]:=z
   rw [z] at this
   cases this
 ·exact dm a (l.ext.dom a q) fun e=>l.old (e▸q)
 ·exact dropRow_mem (fun e=>l.old (e▸mem_fst q)) (l.ext.keep b x q k)
theorem LI.setSt {I:Addr} {o o':Obj} (l:LI W0 h0 W h I o) (S:St P C W h env s) (ht:¬ Imm o) {hp:Heap} (hs:Heap.SameBut I s.heap hp) (ho:hp.get? I=some o') (t:Nat) :
  St P C ⟨W.si,setRow I o' W.ns⟩ h env { s with heap:=hp,toks:=t }∧LI W0 h0 ⟨W.si,setRow I o' W.ns⟩ h I o'∧Le W ⟨W.si,setRow I o' W.ns⟩ h.n h.n:=by
 refine pL fun G0 hG0=>?_
 obtain ⟨R,l',L⟩:=l.set (o':=o') S.rel ht
 obtain ⟨mm,F,e⟩:=S.fr
 refine hG0 ?_
 have z:=S.nw _ l.row
 refine ⟨⟨R,⟨mm,F.change hs z.2.1 z.2.2,e.mono L⟩,?_,S.gens,S.os⟩,l',L⟩
 intro p hp'
 obtain ⟨q,hq,e⟩:=List.mem_map.mp hp'
 by_cases w:q.1=I
 ·rw [if_pos w] at e; subst e; exact ⟨ho,z.2.1,z.2.2⟩
 ·rw [if_neg w] at e; subst e
  have y:=S.nw q hq
  exact ⟨(hs.2 _ w).trans y.1,y.2.1,y.2.2⟩
theorem LI.dropSt {I:Addr} {o:Obj} (l:LI W0 h0 W h I o) (S:St P C W h env s) (r0:Rel P W0 h0) (ht:¬ Imm o) {hp:Heap} (hs:Heap.ExtBut I s.heap hp) (t:Nat) :
  St P C ⟨W.si,dropRow I W.ns⟩ h env { s with heap:=hp,toks:=t }∧Ext W0 ⟨W.si,dropRow I W.ns⟩ h0 h:=by
 refine pL fun G0 hG0=>?_
 obtain ⟨R,X,L⟩:=l.drop S.rel r0 ht
 obtain ⟨mm,F,e⟩:=S.fr
 refine hG0 ?_
 have z:=S.nw _ l.row
 refine ⟨⟨R,⟨mm,⟨F.ns.extBut hs (fun q=>z.2.1 q.symm),fun c x e=>hs c x (fun q=>?_) (F.keep c x e),F.above⟩,e.mono L⟩,?_,S.gens,S.os⟩,X⟩
 ·rw [q] at e; rw [z.2.2] at e; exact oX e
 ·intro p hp'
  obtain ⟨a,b⟩:=dropRow_sub hp'
  have y:=S.nw p a
  exact ⟨hs _ _ b y.1,y.2⟩
end Mine
namespace Mine
variable {P:Pm} {C:Cx} {W W' W0:Wd} {h h' h0:Hp} {env:List V} {s:Shared} {d n:Nat} {cf:CF} {z:V}
structure Dr (P:Pm) (W0:Wd) (h0:Hp) (src:Sr) (y:Value) (D:Nat→Obj→Prop):Prop where
 nt:∀ i o,D i o→¬ Imm o
 start:∀ (C:Cx) (A:Around) env s E (Q:Value→Shared→Prop),St P C W0 h0 env s→
  (∀ o,D 0 o→o.isFreed=false→Q (.ref s.heap.objs.size) { s with heap:=s.heap.push o })→wpAny (Cx.M P) A (pyIter y) Q E s
 next:∀ (C:Cx) (A:Around) W h env s E (Q:Option Value→Shared→Prop) I o i v,St P C W h env s→Ext W0 W h0 h→(I,o)∈W.ns→D i o→(∀ j,j < h.n→W.si j≠I)→item h src i=some (some v)→
  (∀ hp o' u t,Heap.SameBut I s.heap hp→hp.get? I=some o'→D (i + 1) o'→RV P W h.n v u→Q (some u) { s with heap:=hp,toks:=t })→wpAny (Cx.M P) A (pyNext (.ref I)) Q E s
 stop:∀ (C:Cx) (A:Around) W h env s E (Q:Option Value→Shared→Prop) I o i,A.handled=none→St P C W h env s→Ext W0 W h0 h→(I,o)∈W.ns→D i o→(∀ j,j < h.n→W.si j≠I)→item h src i=some none→
  (∀ hp,Heap.ExtBut I s.heap hp→Q none { s with heap:=hp })→wpAny (Cx.M P) A (pyNext (.ref I)) Q E s
 self:∀ (A:Around) s E (Q:Value→Shared→Prop) I o i,D i o→s.heap.get? I=some o→Q (.ref I) s→wpAny (Cx.M P) A (pyIter (.ref I)) Q E s
 go:∀ (A:Around) s E (Q:Unit→Shared→Prop) I o i target v,D i o→s.heap.get? I=some o→Q () s→wpAny (Cx.M P) A (letOwnedTupleGo target (.ref I) v) Q E s
theorem rawRow (S:St P C W h env s) (o:Obj) (hf:o.isFreed=false):St P C ⟨W.si,(s.heap.objs.size,o)::W.ns⟩ h env { s with heap:=s.heap.push o }∧LI W h ⟨W.si,(s.heap.objs.size,o)::W.ns⟩ h s.heap.objs.size o:=by
 refine pL fun G0 hG0=>?_
 obtain ⟨m,F,Em⟩:=S.fr
 have f:∀ p∈W.ns,p.1 < s.heap.objs.size:=fun p hp=>Heap.lt_size (S.nw p hp).1
 obtain ⟨S',X⟩:=S.raw (F.push _) Em (News.push (hfree:=hf) F S.nw o) f s.toks
 refine hG0 ?_
 have old:s.heap.objs.size∉W.ns.map (·.1):=fun m=>by
  obtain ⟨p,hp,e⟩:=List.mem_map.mp m
  exact absurd (f p hp) (by rw [e]; exact Nat.lt_irrefl _)
 exact ⟨S',X,.head _,fun j hj e=>old (e▸S.rel.dom j hj),old⟩
theorem forLoop_s (t body:U) (cf:CF) (z:V) (src:Sr) (k i:Nat) (env:List V) (h:Hp):forLoop t body cf z src (k + 1) i env h=R.ofO (item h src i) fun q=>match q with
 | none=>.nx env h
 | some v=>(t cf v env h).tnx fun env h=>(body cf z env h).bnx fun env h=>forLoop t body cf z src k (Nat.succ i) env h:=rfl
theorem rule_forD (ok:C.Ok P d) {t body:U} {src:Sr} {D:Nat→Obj→Prop} {y:Value} (dr:Dr P W h src y D) {et:Expr} {sts:List Stmt} (Tt:SndT P C (fun z env h=>t cf z env h) et) (Sb:SndSs P C (fun env h=>body cf z env h) sts)
  {k:Nat} {Q:Flow→Shared→Prop} {E:Value→Shared→Prop} (S:St P C W h env s) (o:Out P C W h Q (forLoop t body cf z src k 0 env h)) :
  wpAny (Cx.M P) C.A (pyIter y) (fun it s₂=>codeAny (Cx.M P) C.A (.forLoop et it sts [] C.env) (fun r s'=>match r with | .ok f=>Q f s' | .error e=>cameBackBy (Cx.M P) C.A C.env E e s') s₂) E s:=by
 refine dr.start C C.A env s E _ S fun ob hD hf=>?_
 obtain ⟨S1,l1⟩:=rawRow S ob hf
 refine codeAny_forLoop_any (fun k s'=>∃ W1 h1 env1 i o1,LI W h W1 h1 s.heap.objs.size o1∧D i o1∧St P C W1 h1 env1 s'∧Out P C W h Q (forLoop t body cf z src k i env1 h1)) ?_ k ⟨_,_,_,0,ob,l1,hD,S1,o⟩
 rintro k s1 ⟨W1,h1,env1,i,o1,l,hDi,S1,out⟩
 induction k using Nat.casesOn with
 | zero=>exact out.elim
 | succ k=>
  rw [forLoop_s] at out
  induction q:item h1 src i using Option.casesOn with
  | none=>rw [q] at out; exact out.elim
  | some r=>
   rw [q] at out
   induction r using Option.casesOn with
   | none=>
    refine dr.stop C C.A W1 h1 env1 s1 _ _ _ o1 i ok.handled S1 l.ext l.row hDi l.ni q fun hp hs=>?_
    obtain ⟨S2,X2⟩:=l.dropSt S1 S.rel (dr.nt _ _ hDi) hs s1.toks
    exact wpAny_execs_nil (out _ _ X2 S2)
   | some v=>
    refine dr.next C C.A W1 h1 env1 s1 _ _ _ o1 i v S1 l.ext l.row hDi l.ni q fun hp o2 u tk hs ho hD2 ru=>?_
    obtain ⟨S2,l2,L2⟩:=l.setSt S1 (dr.nt _ _ hDi) hs ho tk
    refine dr.go C.A _ _ _ _ o2 (i + 1) et u hD2 ho ?_
    have out:Out P C W h Q ((t cf v env1 h1).tnx fun env h=>(body cf z env h).bnx fun env h=>forLoop t body cf z src k (Nat.succ i) env h):=out
    induction e1:t cf v env1 h1 using R.casesOn with
    | nx env3 h3=>
     rw [e1] at out
     have out:Out P C W h Q ((body cf z env3 h3).bnx fun env h=>forLoop t body cf z src k (Nat.succ i) env h):=out
     refine Tt _ h1 env1 _ v u env3 h3 _ _ S2 (ru.mono L2) e1 fun W3 s3 X3 S3=>?_
     have l3:=l2.step S2.rel X3 S3.rel
     refine Sb W3 h3 env3 s3 _ _ S3 ?_
     show Out P C W3 h3 _ (body cf z env3 h3)
     induction e2:body cf z env3 h3 using R.casesOn with
     | nx env4 h4=>
      rw [e2] at out
      intro W4 s4 X4 S4
      exact ⟨k,Nat.lt_succ_self _,W4,h4,env4,i + 1,o2,l3.step S3.rel X4 S4.rel,hD2,S4,out⟩
     | rt w h4=>
      rw [e2] at out
      intro W4 s4 y X4 S4 r4
      exact out W4 s4 y (l3.step S3.rel X4 S4.rel).ext S4 r4
     | v _ _=>rw [e2] at out; exact out.elim
     | vs _ _=>rw [e2] at out; exact out.elim
     | no=>rw [e2] at out; exact out.elim
    | v _ _=>rw [e1] at out; exact out.elim
    | vs _ _=>rw [e1] at out; exact out.elim
    | rt _ _=>rw [e1] at out; exact out.elim
    | no=>rw [e1] at out; exact out.elim
end Mine
namespace Mine
variable {P:Pm} {C:Cx} {W W' W0:Wd} {h h' h0:Hp} {env:List V} {s:Shared} {d n:Nat} {cf:CF} {z:V}
theorem letGo_any {A:Around} {E:Value→Shared→Prop} {target:Expr} {I:Addr} {o:Obj} {v:Value} {Q:Unit→Shared→Prop} {s:Shared} {T:String} {fs:Array Value} (hc:o.cls=.type T) (hd:o.data=.fields fs)
  (hT:(["enumerate","zip","dict_itemiterator","dict_reverseitemiterator","odict_iterator","itertools.zip_longest","itertools.pairwise"].contains T)=false) (ho:s.heap.get? I=some o) (h:Q () s):wpAny (Cx.M P) A (letOwnedTupleGo target (.ref I) v) Q E s:=by
 unfold letOwnedTupleGo
 induction target using Expr.casesOn <;> first | exact wpAny_pure h | skip
 all_goals induction v using Value.casesOn <;> first | exact wpAny_pure h | skip
 all_goals refine wpAny_bind (wpAny_load ho ?_)
 all_goals rw [hc,hd]
 all_goals dsimp only
 all_goals rw [hT]
 all_goals exact wpAny_pure h
theorem dr_tup {xs:List V} {b:Addr} {ys:List Value} (m:(b,tupO ys)∈W0.ns) (r:RVs P W0 h0.n xs ys):Dr P W0 h0 (.tup xs) (.ref b) (fun i o=>o.cls=.type "tuple_iterator"∧o.data=.fields #[.ref b,.int (i:Nat) 0]) where
 nt i o hD:=ni_cls hD.1 (by decide) fun y e=>by rw [hD.2] at e; cases e
 start C A env s E Q S q:=iter_tuple (tupIs S m) (q _ ⟨rfl,rfl⟩ rfl)
 next C A W h env s E Q I o i v S X hI hD ni e q:=by
  have e:some (nth xs i)=some (some v):=e
  injection e with e
  rw [nth_get] at e
  obtain ⟨u,u1,u2⟩:=(r.mono X.L).get e
  have hg:=S.nw.get hI
  exact next_tuple_item (x:=u) ⟨o,hg,hD.1,hD.2⟩ (tupIs S (X.L.tup _ _ m)) (by simpa using u1) fun hp hit hs=>let ⟨o',a,b,c⟩:=hit; q hp o' u s.toks hs a ⟨b,c⟩ u2
 stop C A W h env s E Q I o i hh S X hI hD ni e q:=by
  have e:some (nth xs i)=some none:=e
  injection e with e
  rw [nth_get] at e
  have hl:=(r.mono X.L).len
  have hg:=S.nw.get hI
  have:ys[i]?=none:=by rw [List.getElem?_eq_none_iff] at e ⊢; lia
  exact next_tuple_end hh ⟨o,hg,hD.1,hD.2⟩ (tupIs S (X.L.tup _ _ m)) (by simpa using this) q
 self A s E Q I o i hD ho q:=wpAny_pyIter_tupleiter ⟨o,ho,hD.1,hD.2⟩ q
 go A s E Q I o i target v hD ho q:=letGo_any hD.1 hD.2 (by decide) ho q
theorem dr_lst {a k:Nat} {t:Tr V} (ea:h0.t.get a=some (.list k t)) (la:a < h0.n):Dr P W0 h0 (.lst a) (.ref (W0.si a)) (fun i o=>o.cls=.type "list_iterator"∧o.data=.fields #[.ref (W0.si a),.int (i:Nat) 0]) where
 nt i o hD:=ni_cls hD.1 (by decide) fun y e=>by rw [hD.2] at e; cases e
 start C A env s E Q S q:=by
  obtain ⟨_,its,ep,m,_⟩:=list_at S ea
  exact wpAny_pyIter_list (isList_at S m) (q _ ⟨rfl,rfl⟩ rfl)
 next C A W h env s E Q I o i v S X hI hD ni e q:=by
  have e:itemL (h.t.get a) i=some (some v):=e
  induction eb:h.t.get a using Option.casesOn with
  | none=>rw [eb] at e; exact oX e
  | some ob=>
   rw [eb] at e
   induction ob using O.casesOn with
   | list k' t'=>
    refine pL fun G0 hG0=>?_
    have e:(match Nat.blt i k' with | true=>(match t'.get i with | some v=>some (some v) | none=>none) | false=>some none)=some (some v):=e
    obtain ⟨_,its,ep,m,hs,hle,hget⟩:=list_at S eb
    refine hG0 ?_
    rw [X.L.si a la] at m
    have hg:=S.nw.get hI
    induction q1:Nat.blt i k' using Bool.casesOn with
    | false=>rw [q1] at e; cases e
    | true=>
     rw [q1] at e
     rw [blt_eq,decide_eq_true_iff] at q1
     induction q2:t'.get i using Option.casesOn with
     | none=>rw [q2] at e; exact oX e
     | some w=>
      rw [q2] at e
      cases e
      obtain ⟨u,u1,u2⟩:=hget i _ q1 q2
      exact wpAny_pyNext_list_item (x:=u) ⟨o,hg,hD.1,hD.2⟩ (isList_at S m) u1 fun hp hit hs=>let ⟨o',a,b,c⟩:=hit; q hp o' u s.toks hs a ⟨b,c⟩ u2
   | _=>exact oX e
 stop C A W h env s E Q I o i hh S X hI hD ni e q:=by
  have e:itemL (h.t.get a) i=some none:=e
  induction eb:h.t.get a using Option.casesOn with
  | none=>rw [eb] at e; exact oX e
  | some ob=>
   rw [eb] at e
   induction ob using O.casesOn with
   | list k' t'=>
    refine pL fun G0 hG0=>?_
    have e:(match Nat.blt i k' with | true=>(match t'.get i with | some v=>some (some v) | none=>none) | false=>some none)=some none:=e
    obtain ⟨_,its,ep,m,hs,hle,hget⟩:=list_at S eb
    refine hG0 ?_
    rw [X.L.si a la] at m
    have hg:=S.nw.get hI
    induction q1:Nat.blt i k' using Bool.casesOn with
    | true=>
     rw [q1] at e
     induction q2:t'.get i using Option.casesOn with
     | none=>rw [q2] at e; exact oX e
     | some w=>rw [q2] at e; cases e
    | false=>
     rw [blt_eq,decide_eq_false_iff_not] at q1
     exact wpAny_pyNext_list_end hh ⟨o,hg,hD.1,hD.2⟩ (isList_at S m) (by rw [Array.getElem?_eq_none_iff]; omega) q
   | _=>exact oX e
 self A s E Q I o i hD ho q:=wpAny_pyIter_listiter ⟨o,ho,hD.1,hD.2⟩ q
 go A s E Q I o i target v hD ho q:=letGo_any hD.1 hD.2 (by decide) ho q
theorem rsize (lo hi:Nat):Builtin.Range.rangeSize (lo:Int) (hi:Int) 1=((hi - lo:Nat):Int):=by
 unfold Builtin.Range.rangeSize
 rw [if_pos (by decide)]
 split
 ·rw [Int.ediv_one]; lia
 ·lia
theorem rsmall {lo hi:Nat} (h1:lo < 100000) (h2:hi < 100000):Builtin.Range.small (lo:Int) (hi:Int) 1=true:=by
 unfold Builtin.Range.small Builtin.Range.rangeFitsLong
 rw [rsize]
 rw [if_pos (by decide)]
 simp only [Bool.and_eq_true,Bool.or_eq_true,decide_eq_true_eq]
 refine ⟨⟨⟨⟨?_,?_⟩,?_,?_⟩,?_,?_⟩,.inr ⟨?_,?_⟩⟩ <;> lia
theorem dr_rng {b:Addr} {lo hi:Nat} {t u v:Tok} (m:(b,rngO (.int (lo:Nat) t) (.int (hi:Nat) u) v)∈W0.ns) (h1:lo < 100000) (h2:hi < 100000) :
  Dr P W0 h0 (.rng lo (hi - lo)) (.ref b) (fun i o=>o={ cls:=.type "range_iterator",data:=.fields #[rawInt ((lo:Int) + (i:Nat)),rawInt (((hi - lo:Nat):Int) - (i:Nat)),rawInt 1] }) where
 nt i o hD:=ni_cls (T:="range_iterator") (by rw [hD]) (by decide) fun y e=>by rw [hD] at e; cases e
 start C A env s E Q S q:=by
  refine wpAny_pyIter_range (S.nw.get m) (rsmall h1 h2) (q _ ?_ rfl)
  rw [rsize]; simp
 next C A W h env s E Q I o i v S X hI hD ni e q:=by
  have e:(match Nat.blt i (hi - lo) with | true=>some (some (V.int (.ofNat (Nat.add lo i)))) | false=>some none)=some (some v):=e
  induction q1:Nat.blt i (hi - lo) using Bool.casesOn with
  | false=>rw [q1] at e; cases e
  | true=>
   rw [q1] at e
   cases e
   rw [blt_eq,decide_eq_true_iff] at q1
   have hg:=S.nw.get hI
   rw [hD] at hg
   refine wpAny_pyNext_range_item hg (by lia) fun hp hit hs=>q hp _ _ _ hs hit ?_ (rvMk _)
   rw [show (lo:Int) + (i:Int) + 1=(lo:Int) + ((i + 1:Nat):Int) by lia,show (((hi - lo:Nat):Int) - (i:Int)) - 1=((hi - lo:Nat):Int) - ((i + 1:Nat):Int) by lia]
 stop C A W h env s E Q I o i hh S X hI hD ni e q:=by
  have e:(match Nat.blt i (hi - lo) with | true=>some (some (V.int (.ofNat (Nat.add lo i)))) | false=>some none)=some none:=e
  induction q1:Nat.blt i (hi - lo) using Bool.casesOn with
  | true=>rw [q1] at e; cases e
  | false=>
   rw [blt_eq,decide_eq_false_iff_not] at q1
   have hg:=S.nw.get hI
   rw [hD] at hg
   exact wpAny_pyNext_range_end hh hg (by omega) q
 self A s E Q I o i hD ho q:=by
  subst hD
  exact wpAny_pyIter_rangeiter ho q
 go A s E Q I o i target v hD ho q:=by
  subst hD
  exact letGo_any (T:="range_iterator") rfl rfl (by decide) ho q
theorem rng_at (S:St P C W h env s) {a:Nat} {lo hi:Int} (e:h.t.get a=some (.rng lo hi)):∃ t u v,(W.si a,rngO (.int lo t) (.int hi u) v)∈W.ns:=(S.rel.at e).2
theorem src_dr (S:St P C W h env s) {sv:V} {y:Value} {src:Sr} (r:RV P W h.n sv y) (e:srcOf h sv=some src):∃ D,Dr P W h src y D:=by
 induction sv using V.casesOn with
 | tn=>
  refine pL fun G0 hG0=>?_
  (obtain rfl:=Option.some.inj e)
  obtain ⟨b,ys,rfl,m,rs,_⟩:=tupL_rv (v:=.tn) (xs:=[]) rfl r
  refine hG0 ?_
  exact ⟨_,dr_tup m rs⟩
 | tc p q=>
  have e:(match tupL (.tc p q) with | some xs=>some (Sr.tup xs) | none=>none)=some src:=e
  induction ex:tupL (.tc p q) using Option.casesOn with
  | none=>rw [ex] at e; exact oX e
  | some xs=>
   rw [ex] at e
   (obtain rfl:=Option.some.inj e)
   obtain ⟨b,ys,rfl,m,rs,_⟩:=tupL_rv ex r
   exact ⟨_,dr_tup m rs⟩
 | ref a=>
  have e:(match h.t.get a with | some o=>srcO a o | none=>none)=some src:=e
  obtain ⟨la,rfl⟩:=rv_ref r
  induction ea:h.t.get a using Option.casesOn with
  | none=>rw [ea] at e; exact oX e
  | some o=>
   rw [ea] at e
   induction o using O.casesOn with
   | list k t=>(obtain rfl:=Option.some.inj e); exact ⟨_,dr_lst ea la⟩
   | rng lo hi=>
    obtain ⟨t,u,v,m⟩:=rng_at S ea
    induction lo using Int.casesOn with
    | negSucc _=>exact oX e
    | ofNat lo=>
     induction hi using Int.casesOn with
     | negSucc _=>exact oX e
     | ofNat hi=>
      have e:onB (b3 (Nat.blt lo 100000) (Nat.blt hi 100000) true) (some (Sr.rng lo (Nat.sub hi lo)))=some src:=e
      obtain ⟨e1,e2⟩:=onB_some e
      (obtain rfl:=Option.some.inj e2)
      obtain ⟨q1,q2,_⟩:=b3_eq.mp e1
      rw [blt_eq,decide_eq_true_iff] at q1 q2
      exact ⟨_,dr_rng m q1 q2⟩
   | _=>exact oX e
 | _=>exact oX e
theorem rule_for (ok:C.Ok P d) {t it body:U} {et ei:Expr} {sts:List Stmt} {pos:Pos} (hf:∀ x,foldedSetIterable ei C.env x=pure x) (Tt:SndT P C (fun z env h=>t cf z env h) et) (Si:SndE P C (fun env h=>it cf z env h) ei) (Sb:SndSs P C (fun env h=>body cf z env h) sts) :
  SndS P C (fun env h=>cFor t it body cf z env h) (.For et ei sts [] pos):=by
 intro W h env s Q E S o
 refine pL fun G0 hG0=>?_
 obtain ⟨sv,h1,e1,o1⟩:=Out.bv o
 refine hG0 ?_
 refine wpAny_For (Si W h env s sv h1 _ E S e1 fun W1 s1 y X1 S1 r1=>?_) hf
 have key:∃ src,srcOf h1 sv=some src∧Out P C W h Q (forLoop t body cf z src 400 0 env h1):=by
  have o1:Out P C W h Q (R.ofO (srcOf h1 sv) fun src=>forLoop t body cf z src 400 0 env h1):=o1
  induction q:srcOf h1 sv using Option.casesOn with
  | none=>rw [q] at o1; exact o1.elim
  | some src=>rw [q] at o1; exact ⟨src,rfl,o1⟩
 refine pL fun G0 hG0=>?_
 obtain ⟨src,e2,o2⟩:=key
 obtain ⟨D,dr⟩:=src_dr S1 r1 e2
 refine hG0 ?_
 exact rule_forD ok dr Tt Sb S1 (o2.step X1 S1.rel)
end Mine
namespace Mine
variable {P:Pm} {C:Cx} {W W' W0:Wd} {h h' h0:Hp} {env:List V} {s:Shared} {d n:Nat} {cf:CF} {z:V}
inductive TNs (cl:List (Str×Addr)) (names:List Str):List Nat→List Expr→Prop
 | nil:TNs cl names [] []
 | cons {i x pos is es}:names[i]?=some x→cl.lookup x=none→TNs cl names is es→TNs cl names (i::is) (.Name x pos::es)
theorem TNs.each {cl:List (Str×Addr)} {names:List Str} {is:List Nat} {es:List Expr} (t:TNs cl names is es) (env:Env):assignEach es env=es.map fun e=>(false,assign e env):=by
 induction t with
 | nil=>rfl
 | cons _ _ _ ih=>rw [assignEach,ih]; rfl; intro _ _ q; cases q
theorem TNs.len {cl:List (Str×Addr)} {names:List Str} {is:List Nat} {es:List Expr} (t:TNs cl names is es):is.length=es.length:=by
 induction t with
 | nil=>rfl
 | cons _ _ _ ih=>simp [ih]
theorem inOrder (ok:C.Ok P d) {is:List Nat} {es:List Expr} (t:TNs C.cl C.names is es) {A:Around} {E:Value→Shared→Prop} {Q:Unit→Shared→Prop}:∀ {env:List V} {vs:List V} {ys:List Value} {s:Shared},St P C W h env s→RVs P W h.n vs ys→
  (∀ s',St P C W h (setMany is env vs) s'→Q () s')→wpAny (Cx.M P) A (assignInOrder (es.map fun e=>assign e C.env) ys) Q E s:=by
 induction t with
 | nil=>intro env vs ys s S r q; exact assignInOrder_nil (q s S)
 | @cons i x pos is es hx hc _ ih=>
  intro env vs ys s S r q
  cases r with
  | nil=>exact wpAny_pure (q s S)
  | cons r1 rs=>exact assignInOrder_cons (assign_Name (store_ok ok hx hc S r1 fun s' S'=>ih S' rs q))
theorem rule_ttup (ok:C.Ok P d) {is:List Nat} {es:List Expr} {k:Nat} {pos:Pos} (t:TNs C.cl C.names is es):SndT P C (fun z env h=>cTtup is cf z env h) (.Tuple es k pos):=by
 intro W h env s z y env' h' Q E S r e o
 have e:(R.ofO (tupL z) fun vs=>match Nat.beq vs.length is.length with | true=>R.nx (setMany is env vs) h | false=>R.no)=.nx env' h':=e
 induction ez:tupL z using Option.casesOn with
 | none=>rw [ez] at e; exact rX e
 | some vs=>
  rw [ez] at e
  have e:(match Nat.beq vs.length is.length with | true=>R.nx (setMany is env vs) h | false=>R.no)=.nx env' h':=e
  induction q:Nat.beq vs.length is.length using Bool.casesOn with
  | false=>rw [q] at e; exact rX e
  | true=>
   rw [q] at e
   (obtain ⟨rfl,rfl⟩:=R.nx.inj e)
   rw [beqD,decide_eq_true_iff] at q
   obtain ⟨b,ys,rfl,m,rs,_⟩:=tupL_rv ez r
   obtain ⟨mm,F,Em⟩:=S.fr
   have hl:=rs.len
   have ht:=t.len
   refine unpackN_ F S.nw (tupIs S m) ok.handled ?_ ?_ fun hp F' N'=>?_
   ·rw [t.each]; simp; lia
   ·rw [t.each]
    clear ht q o
    induction t with
    | nil=>rfl
    | cons _ _ _ ih=>rw [List.map_cons,List.findIdx?_cons]; simp
   ·rw [t.each,List.map_map]
    exact inOrder ok t ⟨S.rel,⟨mm,F',Em⟩,N',S.gens,S.os⟩ (by simpa using rs) fun s' S'=>o W s' (Ext.refl W h) S'
end Mine
namespace Mine
section
variable {prog:Program} {w:World} {A:Around} {E:Value→Shared→Prop} {s:Shared}
theorem adjust_between (a b n:Nat) (ha:a≤n) (hb:b≤n):Builtin.Slice.sliceAdjust (some (a:Int)) (some (b:Int)) 1 (n:Int)=((a:Int),(b:Int)):=by
 unfold Builtin.Slice.sliceAdjust
 have h1:¬ ((1:Int) < 0):=by lia
 have h2:¬ ((a:Int) < 0):=by lia
 have h3:¬ ((b:Int) < 0):=by lia
 simp only [h1,h2,h3,if_false]
 congr 1 <;> lia
theorem places_between (a b:Nat):Builtin.Slice.slicePlaces (a:Int) (b:Int) 1=b - a:=by
 unfold Builtin.Slice.slicePlaces
 have h1:(1:Int) > 0:=by lia
 simp only [h1,if_true,Int.ediv_one]
 split <;> lia
theorem sliceApplied_between {sl:Addr} {a b n:Nat} {u u':Tok} {Q:Int×Int×Nat→Shared→Prop} (hs:s.heap.IsSliceOf sl (.int a u) (.int b u') .none) (ha:a≤n) (hb:b≤n) (h:Q ((a:Int),1,b - a) s) :
  wpAny (model prog w) A (Builtin.Slice.sliceApplied (.ref sl) (pure (n:Int))) Q E s:=by
 obtain ⟨os,hos,hcs,hds⟩:=id hs
 unfold Builtin.Slice.sliceApplied Builtin.Slice.sliceFields
 refine wpAny_bind (wpAny_bind (wpAny_field hos hds (x:=.int a u) rfl (wpAny_bind (wpAny_field hos hds (x:=.int b u') rfl (wpAny_bind (wpAny_field hos hds (x:=.none) rfl (wpAny_pure ?_)))))))
 refine wpAny_bind (slicePart_none ?_)
 show wpAny _ _ (if ((1:Int) == 0)=true then _ else _) _ _ s
 rw [if_neg (by decide)]
 refine wpAny_bind (slicePart_int (wpAny_bind (slicePart_int (wpAny_bind (wpAny_pure ?_)))))
 show wpAny _ _ (match Builtin.Slice.sliceAdjust (some (a:Int)) (some (b:Int)) 1 (n:Int) with | (lo,hi)=>pure (lo,(1:Int),Builtin.Slice.slicePlaces lo hi 1)) _ _ s
 rw [adjust_between a b n ha hb]
 show wpAny _ _ (pure ((a:Int),(1:Int),Builtin.Slice.slicePlaces (a:Int) (b:Int) 1)) _ _ s
 rw [places_between a b]
 exact wpAny_pure h
theorem adjust_back (n:Nat):Builtin.Slice.sliceAdjust none none (-1) (n:Int)=((n:Int) - 1,-1):=by
 unfold Builtin.Slice.sliceAdjust
 have h1:((-1:Int) < 0):=by lia
 simp only [h1,if_true]
theorem places_back (n:Nat):Builtin.Slice.slicePlaces ((n:Int) - 1) (-1) (-1)=n:=by
 unfold Builtin.Slice.slicePlaces
 have h1:¬ ((-1:Int) > 0):=by lia
 simp only [h1,if_false]
 by_cases q:0 < n
 ·simp; lia
 ·obtain rfl:n=0:=by lia
  rfl
theorem sliceApplied_back {sl:Addr} {n:Nat} {u:Tok} {Q:Int×Int×Nat→Shared→Prop} (hs:s.heap.IsSliceOf sl .none .none (.int (-1) u)) (h:Q ((n:Int) - 1,-1,n) s) :
  wpAny (model prog w) A (Builtin.Slice.sliceApplied (.ref sl) (pure (n:Int))) Q E s:=by
 refine pL fun G0 hG0=>?_
 obtain ⟨os,hos,hcs,hds⟩:=id hs
 refine hG0 ?_
 unfold Builtin.Slice.sliceApplied Builtin.Slice.sliceFields
 refine wpAny_bind (wpAny_bind (wpAny_field hos hds (x:=.none) rfl (wpAny_bind (wpAny_field hos hds (x:=.none) rfl (wpAny_bind (wpAny_field hos hds (x:=.int (-1) u) rfl (wpAny_pure ?_)))))))
 refine wpAny_bind (slicePart_int ?_)
 show wpAny _ _ (if ((-1:Int) == 0)=true then _ else _) _ _ s
 rw [if_neg (by decide)]
 refine wpAny_bind (slicePart_none (wpAny_bind (slicePart_none (wpAny_bind (wpAny_pure ?_)))))
 show wpAny _ _ (match Builtin.Slice.sliceAdjust none none (-1) (n:Int) with | (lo,hi)=>pure (lo,(-1:Int),Builtin.Slice.slicePlaces lo hi (-1))) _ _ s
 rw [adjust_back n]
 show wpAny _ _ (pure ((n:Int) - 1,(-1:Int),Builtin.Slice.slicePlaces ((n:Int) - 1) (-1) (-1))) _ _ s
 rw [places_back]
 exact wpAny_pure h
theorem getItem_tuple_sl {t sl:Addr} {items:Array Value} {lo st:Int} {n:Nat} {va vb vc:Value} {Q:Value→Shared→Prop} (ht:IsTup s.heap t items) (hs:s.heap.IsSliceOf sl va vb vc)
  (ap:∀ (A:Around) (E:Value→Shared→Prop) (Q:Int×Int×Nat→Shared→Prop),Q (lo,st,n) s→wpAny (model prog w) A (Builtin.Slice.sliceApplied (.ref sl) (pure (items.size:Int))) Q E s) (hno:(lo == 0 && st == 1 && n == items.size)=false)
  (hsz:((List.range n).filterMap fun (k:Nat)=>items[(lo + (k:Int) * st).toNat]?).toArray.size≤sizeLine)
  (h:Q (.ref s.heap.objs.size) { s with heap:=s.heap.push { cls:=.type "tuple",data:=.seq ((List.range n).filterMap fun (k:Nat)=>items[(lo + (k:Int) * st).toNat]?).toArray } }):wpAny (model prog w) A (getItem (.ref t) (.ref sl)) Q E s:=by
 refine pL fun G0 hG0=>?_
 have hdrop:sizeOk (.seq ((List.range n).filterMap fun (k:Nat)=>items[(lo + (k:Int) * st).toNat]?).toArray):=hsz
 obtain ⟨os,hos,hcs,hds⟩:=id hs
 refine hG0 ?_
 have hTs:s.TypeIs (.ref sl) "slice":=⟨os,hos,hcs⟩
 unfold getItem
 try with_reducible refine wpAny_holding ?_
 first | refine wpAny_bind (wpAny_pure ?_) | skip
 refine wpAny_bind (wpAny_sequenceKey ht.typeIs (by decide) ?_)
 refine wpAny_bind (wpAny_callSpecial?_slot (name:=Str.ofString "__getitem__") ht.typeIs slot_tuple_getitem
  (wpAny_call_entry slot_tuple_getitem ht.typeIs entry_tuple_getitem ?_ (args_tuple_getitem _ _)))
 show wpAny _ _ (Builtin.Tuple.tupleItemsOf (.ref t) >>= _) _ _ s
 refine wpAny_bind (tupleItemsOf_ ht ?_)
 refine wpAny_bind (wpAny_typeOf hTs ?_)
 rw [if_pos (by decide)]
 refine wpAny_bind (ap _ _ _ ?_)
 show wpAny _ _ (if (lo == 0 && st == 1 && n == items.size)=true then _ else _) _ _ s
 rw [if_neg (by rw [hno]; decide)]
 first
  | exact wpAny_bind (m:=Builtin.Tuple.tupleExact _) (wpAny_newObj_type (wpAny_pure ⟨_,rfl,wpAny_pure h⟩) hdrop)
  | exact wpAny_bind (m:=Builtin.Tuple.tupleExact _) (wpAny_newObj_type (wpAny_bind (wpAny_pure (wpAny_pure ⟨_,rfl,wpAny_pure h⟩))) hdrop)
  | exact wpAny_bind (wpAny_bind (m:=Builtin.Tuple.tupleExact _) (wpAny_newObj_type (wpAny_pure (wpAny_pure ⟨_,rfl,wpAny_pure h⟩)) hdrop))
  | exact wpAny_bind (wpAny_bind (m:=Builtin.Tuple.tupleExact _) (wpAny_newObj_type (wpAny_pure ⟨_,rfl,wpAny_pure h⟩) hdrop))
end
end Mine
namespace Mine
variable {P:Pm} {C:Cx} {W W' W0:Wd} {h h' h0:Hp} {env:List V} {s:Shared} {d n:Nat} {cf:CF} {z:V}
theorem tupPush (S:St P C W h env s) {Q:Value→Shared→Prop} {xs:List V} {ys:List Value} {v:V} (r:RVs P W h.n xs ys) (e:R.newT h xs=.v v h') (g:Go P C W h env h' v Q):Q (.ref s.heap.objs.size) { s with heap:=s.heap.push (tupO ys) }:=by
 refine pL fun G0 hG0=>?_
 obtain ⟨e1,e2⟩:=lid_v e
 (obtain ⟨rfl,rfl⟩:=R.v.inj e2)
 obtain ⟨m,F,Em⟩:=S.fr
 have f:∀ p∈W.ns,p.1 < s.heap.objs.size:=fun p hp=>Heap.lt_size (S.nw p hp).1
 obtain ⟨S',X⟩:=S.raw (F.push _) Em (News.push F S.nw (tupO ys)) f s.toks
 refine hG0 ?_
 exact g _ _ _ X S' (rt_rv (mkT_rt (r.mono X.L)) (.head _))
theorem lstPush (S:St P C W h env s) {Q:Value→Shared→Prop} {xs:List V} {ys:List Value} {v:V} (r:RVs P W h.n xs ys) (e:R.newL h xs=.v v h') (g:Go P C W h env h' v Q):Q (.ref s.heap.objs.size) { s with heap:=s.heap.push (listOf ys.toArray 0) }:=by
 refine pL fun G0 hG0=>?_
 obtain ⟨m,F,hl,k⟩:=mkList S r e g
 refine hG0 ?_
 exact k _ 0 s.toks (F.push _) (News.push F S.nw _)
theorem RVs.take {xs:List V} {ys:List Value} (r:RVs P W n xs ys):∀ k,RVs P W n (xs.take k) (ys.take k):=by
 induction r with
 | nil=>intro k; simp only [List.take_nil]; exact .nil
 | cons a _ ih=>intro k; cases k with
  | zero=>exact .nil
  | succ k=>exact .cons a (ih k)
theorem RVs.drop {xs:List V} {ys:List Value} (r:RVs P W n xs ys):∀ k,RVs P W n (xs.drop k) (ys.drop k):=by
 induction r with
 | nil=>intro k; simp only [List.drop_nil]; exact .nil
 | cons a r ih=>intro k; cases k with
  | zero=>exact .cons a r
  | succ k=>exact ih k
theorem fmap_rvs {f:Nat→Option V} {g:Nat→Option Value}:∀ (l:List Nat),(∀ k∈l,(f k=none∧g k=none)∨∃ v y,f k=some v∧g k=some y∧RV P W n v y)→RVs P W n (fmap f l) (l.filterMap g)
 | [],_=>.nil
 | k::l,hh=>by
  have e:fmap f (k::l)=Option.rec (fmap f l) (fun v=>v::fmap f l) (f k):=rfl
  rw [e,List.filterMap_cons]
  have ih:=fmap_rvs l fun q m=>hh q (.tail _ m)
  rcases hh k (.head _) with ⟨a,b⟩ | ⟨v,y,a,b,c⟩
  ·rw [a,b]; exact ih
  ·rw [a,b]; exact .cons c ih
theorem RVs.both {xs:List V} {ys:List Value} (r:RVs P W n xs ys) (k:Nat):(nth xs k=none∧ys[k]?=none)∨∃ v y,nth xs k=some v∧ys[k]?=some y∧RV P W n v y:=by
 rw [nth_get]
 induction e:xs[k]? using Option.casesOn with
 | none=>exact .inl ⟨rfl,by have:=r.len; rw [List.getElem?_eq_none_iff] at e ⊢; lia⟩
 | some v=>obtain ⟨y,a,b⟩:=r.get e; exact .inr ⟨v,y,rfl,a,b⟩
theorem slT_v {x v:V} {gd:List V→Bool} {k:List V→List V} (e:slT h x gd k=.v v h'):∃ xs,tupL x=some xs∧gd xs=true∧xs.length < 1000∧R.newT h (k xs)=.v v h':=by
 refine pL fun G0 hG0=>?_
 obtain ⟨xs,e1,e2⟩:=ofO_v e
 obtain ⟨e3,e4⟩:=lid_v e2
 obtain ⟨q1,q2,_⟩:=b3_eq.mp e3
 refine hG0 ?_
 rw [blt_eq,decide_eq_true_iff] at q2
 exact ⟨xs,e1,q1,q2,e4⟩
section
variable {A:Around} {E:Value→Shared→Prop} {Q:Value→Shared→Prop}
theorem sl_upto (S:St P C W h env s) {x v:V} {y:Value} {i:Nat} {u:Tok} {sl:Addr} (hs:s.heap.IsSliceOf sl .none (.int i u) .none) (rx:RV P W h.n x y) (e:(lst h x fun _ n t=>R.ofO (toL t n) fun xs=>R.newL h ((xs.take i)))=.v v h') (g:Go P C W h env h' v Q) :
  s.TypeIs y "list"∧wpAny (Cx.M P) A (getItem y (.ref sl)) Q E s:=by
 refine pL fun G0 hG0=>?_
 obtain ⟨a,k,t,rfl,ea,e1⟩:=lst_v e
 obtain ⟨xs,e2,e3⟩:=ofO_v e1
 obtain ⟨_,rfl⟩:=rv_ref rx
 obtain ⟨_,its,ep,m,hz,hle,hget⟩:=list_at S ea
 refine hG0 ?_
 have r:=(list_rvs e2 hz hget).take i
 have q:=lstPush S r e3 g
 refine ⟨(isList_at S m).typeIs,wpAny_getItem_list_slice (isList_at S m) hs .none (.int _ _) .none (by simp) ?_ (by rw [sizeLine_eq]; lia)⟩
 rw [slicePick_upto']
 exact q
theorem sl_from (S:St P C W h env s) {x v:V} {y:Value} {i:Nat} {u:Tok} {sl:Addr} (hs:s.heap.IsSliceOf sl (.int i u) .none .none) (rx:RV P W h.n x y) (e:slT h x (fun xs=>b3 (Nat.ble 1 i) (Nat.ble i xs.length) true) (fun xs=>xs.drop i)=.v v h') (g:Go P C W h env h' v Q) :
  s.TypeIs y "tuple"∧wpAny (Cx.M P) A (getItem y (.ref sl)) Q E s:=by
 refine pL fun G0 hG0=>?_
 obtain ⟨xs,e1,e2,e3,e4⟩:=slT_v e
 obtain ⟨q1,q2,_⟩:=b3_eq.mp e2
 rw [ble_eq,decide_eq_true_iff] at q1 q2
 obtain ⟨b,ys,rfl,m,rs,_⟩:=tupL_rv e1 rx
 refine hG0 ?_
 have hl:=rs.len
 have q:=tupPush S (rs.drop i) e4 g
 exact ⟨(tupIs S m).typeIs,getItem_tuple_from (tupIs S m) hs q1 (by rw [List.size_toArray]; lia) (by simpa using q) (by rw [sizeLine_eq,List.size_toArray]; lia)⟩
theorem sl_mid (S:St P C W h env s) {x v:V} {y:Value} {i j:Nat} {u u':Tok} {sl:Addr} (hs:s.heap.IsSliceOf sl (.int i u) (.int j u') .none) (rx:RV P W h.n x y)
  (e:slT h x (fun xs=>b3 (Nat.ble 1 i) (Nat.ble i j) (Nat.ble j xs.length)) (fun xs=>fmap (fun k=>nth xs (Nat.add i k)) (List.range (Nat.sub j i)))=.v v h') (g:Go P C W h env h' v Q):s.TypeIs y "tuple"∧wpAny (Cx.M P) A (getItem y (.ref sl)) Q E s:=by
 obtain ⟨xs,e1,e2,e3,e4⟩:=slT_v e
 obtain ⟨q1,q2,q3⟩:=b3_eq.mp e2
 rw [ble_eq,decide_eq_true_iff] at q1 q2 q3
 obtain ⟨b,ys,rfl,m,rs,_⟩:=tupL_rv e1 rx
 have hl:=rs.len
 have hf:(fun (k:Nat)=>ys.toArray[((i:Int) + (k:Int) * 1).toNat]?)=fun k=>ys[i + k]?:=by
  funext k
  rw [show ((i:Int) + (k:Int) * 1).toNat=i + k by lia]
  simp
 have q:=tupPush S (fmap_rvs (f:=fun k=>nth xs (Nat.add i k)) (g:=fun k=>ys[i + k]?) (List.range (Nat.sub j i)) fun k _=>rs.both (i + k)) e4 g
 refine ⟨(tupIs S m).typeIs,getItem_tuple_sl (lo:=i) (st:=1) (n:=j - i) (tupIs S m) hs (fun A E Q q=>sliceApplied_between hs (by rw [List.size_toArray]; lia) (by rw [List.size_toArray]; lia) q) ?_ ?_ ?_⟩
 ·have:((i:Int) == 0)=false:=by rw [beq_eq_false_iff_ne]; lia
  rw [this]; rfl
 ·rw [hf,List.size_toArray,sizeLine_eq]
  have:=List.length_filterMap_le (fun k=>ys[i + k]?) (List.range (j - i))
  rw [List.length_range] at this
  lia
 ·rw [hf]; exact q
theorem sl_rev (S:St P C W h env s) {x v:V} {y:Value} {u:Tok} {sl:Addr} (hs:s.heap.IsSliceOf sl .none .none (.int (-1) u)) (rx:RV P W h.n x y)
  (e:slT h x (fun _=>true) (fun xs=>fmap (fun k=>nth xs (Nat.sub (Nat.sub xs.length 1) k)) (List.range xs.length))=.v v h') (g:Go P C W h env h' v Q):s.TypeIs y "tuple"∧wpAny (Cx.M P) A (getItem y (.ref sl)) Q E s:=by
 refine pL fun G0 hG0=>?_
 obtain ⟨xs,e1,_,e3,e4⟩:=slT_v e
 obtain ⟨b,ys,rfl,m,rs,_⟩:=tupL_rv e1 rx
 refine hG0 ?_
 have hl:=rs.len
 have hf:(List.range ys.length).filterMap (fun (k:Nat)=>ys.toArray[((ys.length:Int) - 1 + (k:Int) * -1).toNat]?)=(List.range xs.length).filterMap fun k=>ys[xs.length - 1 - k]?:=by
  rw [hl]
  refine fm_congr fun k hk=>?_
  have:=List.mem_range.mp hk
  rw [show ((ys.length:Int) - 1 + (k:Int) * -1).toNat=ys.length - 1 - k by lia]
  simp
 have q:=tupPush S (fmap_rvs (f:=fun k=>nth xs (Nat.sub (Nat.sub xs.length 1) k)) (g:=fun k=>ys[xs.length - 1 - k]?) (List.range xs.length) fun k _=>rs.both (xs.length - 1 - k)) e4 g
 have hsz:ys.toArray.size=ys.length:=List.size_toArray ..
 refine ⟨(tupIs S m).typeIs,getItem_tuple_sl (lo:=(ys.length:Int) - 1) (st:=-1) (n:=ys.length) (tupIs S m) hs (fun A E Q q=>by rw [hsz]; exact sliceApplied_back hs q) ?_ ?_ ?_⟩
 ·have:((-1:Int) == 1)=false:=rfl
  rw [this]; simp
 ·rw [hf,List.size_toArray,sizeLine_eq]
  have:=List.length_filterMap_le (fun k=>ys[xs.length - 1 - k]?) (List.range xs.length)
  rw [List.length_range] at this
  lia
 ·rw [hf]; exact q
end
end Mine
namespace Mine
variable {P:Pm} {C:Cx} {W W' W0:Wd} {h h' h0:Hp} {env:List V} {s:Shared} {d n:Nat} {cf:CF} {z:V}
theorem sl_st (S:St P C W h env s) (a b c:Value):∃ W1,St P C W1 h env { s with heap:=s.heap.push { cls:=.type "slice",data:=.fields #[a,b,c] } }∧Ext W W1 h h∧(s.heap.push { cls:=.type "slice",data:=.fields #[a,b,c] }).IsSliceOf s.heap.objs.size a b c:=by
 obtain ⟨S1,l⟩:=rawRow S { cls:=.type "slice",data:=.fields #[a,b,c] } rfl
 exact ⟨_,S1,l.ext,Heap.IsSliceOf.new ..⟩
section
variable {a:U} {ea:Expr} {p p1 p2 p3 pos:Pos} {k k':Nat}
theorem rule_upto {i:Nat} (Sa:SndE P C (fun env h=>a cf z env h) ea) :
  SndE P C (fun env h=>cSlice .none (.int (.ofNat i)) .none a cf z env h) (.Subscript ea (.Slice none (some (.Constant (.int (.ofNat i)) k p1)) none p) pos):=by
 intro W h env s v h' Q E S e g
 refine pL fun G0 hG0=>?_
 obtain ⟨x,h1,e1,e2⟩:=bv_v e
 refine hG0 ?_
 have e2:(lst h1 x fun _ n t=>R.ofO (toL t n) fun xs=>R.newL h1 ((xs.take i)))=.v v h':=e2
 refine Subscript_ (Sa W h env s x h1 _ E S e1 fun W1 s1 y X1 S1 r1=>wpAny_Slice ?_)
 rw [evalPart_none,evalPart_some]
 refine wpAny_pure (wpAny_Constant_int (wpAny_pure ?_))
 refine pL fun G0 hG0=>?_
 obtain ⟨W2,S2,X2,hs⟩:=sl_st (S1.tok (s1.toks + 1)) .none (.int (.ofNat i) s1.toks) .none
 obtain ⟨q1,q2⟩:=sl_upto S2 hs (r1.mono X2.L) e2 ((g.step X1 S1.rel).step X2 S2.rel) (E:=E)
 refine hG0 ?_
 exact tail_any q1 list_getitem_lookup q2 rfl
theorem rule_from {i:Nat} (Sa:SndE P C (fun env h=>a cf z env h) ea) :
  SndE P C (fun env h=>cSlice (.int (.ofNat i)) .none .none a cf z env h) (.Subscript ea (.Slice (some (.Constant (.int (.ofNat i)) k p1)) none none p) pos):=by
 intro W h env s v h' Q E S e g
 refine pL fun G0 hG0=>?_
 obtain ⟨x,h1,e1,e2⟩:=bv_v e
 refine hG0 ?_
 have e2:slT h1 x (fun xs=>b3 (Nat.ble 1 i) (Nat.ble i xs.length) true) (fun xs=>xs.drop i)=.v v h':=e2
 refine Subscript_ (Sa W h env s x h1 _ E S e1 fun W1 s1 y X1 S1 r1=>wpAny_Slice ?_)
 rw [evalPart_none,evalPart_some]
 refine wpAny_Constant_int (wpAny_pure (wpAny_pure ?_))
 refine pL fun G0 hG0=>?_
 obtain ⟨W2,S2,X2,hs⟩:=sl_st (S1.tok (s1.toks + 1)) (.int (.ofNat i) s1.toks) .none .none
 obtain ⟨q1,q2⟩:=sl_from S2 hs (r1.mono X2.L) e2 ((g.step X1 S1.rel).step X2 S2.rel) (E:=E)
 refine hG0 ?_
 exact tail_any q1 PyProof.Rows.slot_tuple_getitem.lookup q2 rfl
theorem rule_mid {i j:Nat} (Sa:SndE P C (fun env h=>a cf z env h) ea) :
  SndE P C (fun env h=>cSlice (.int (.ofNat i)) (.int (.ofNat j)) .none a cf z env h) (.Subscript ea (.Slice (some (.Constant (.int (.ofNat i)) k p1)) (some (.Constant (.int (.ofNat j)) k' p2)) none p) pos):=by
 intro W h env s v h' Q E S e g
 refine pL fun G0 hG0=>?_
 obtain ⟨x,h1,e1,e2⟩:=bv_v e
 refine hG0 ?_
 have e2:slT h1 x (fun xs=>b3 (Nat.ble 1 i) (Nat.ble i j) (Nat.ble j xs.length)) (fun xs=>fmap (fun k=>nth xs (Nat.add i k)) (List.range (Nat.sub j i)))=.v v h':=e2
 refine Subscript_ (Sa W h env s x h1 _ E S e1 fun W1 s1 y X1 S1 r1=>wpAny_Slice ?_)
 rw [evalPart_none,evalPart_some,evalPart_some]
 refine wpAny_Constant_int (wpAny_Constant_int (wpAny_pure ?_))
 refine pL fun G0 hG0=>?_
 obtain ⟨W2,S2,X2,hs⟩:=sl_st (S1.tok (s1.toks + 1 + 1)) (.int (.ofNat i) s1.toks) (.int (.ofNat j) (s1.toks + 1)) .none
 obtain ⟨q1,q2⟩:=sl_mid S2 hs (r1.mono X2.L) e2 ((g.step X1 S1.rel).step X2 S2.rel) (E:=E)
 refine hG0 ?_
 exact tail_any q1 PyProof.Rows.slot_tuple_getitem.lookup q2 rfl
theorem rule_rev (Sa:SndE P C (fun env h=>a cf z env h) ea) :
  SndE P C (fun env h=>cSlice .none .none (.neg (.int (.ofNat 1))) a cf z env h) (.Subscript ea (.Slice none none (some (.UnaryOp .USub (.Constant (.int (.ofNat 1)) k p1) p2)) p) pos):=by
 intro W h env s v h' Q E S e g
 refine pL fun G0 hG0=>?_
 obtain ⟨x,h1,e1,e2⟩:=bv_v e
 refine hG0 ?_
 have e2:slT h1 x (fun _=>true) (fun xs=>fmap (fun k=>nth xs (Nat.sub (Nat.sub xs.length 1) k)) (List.range xs.length))=.v v h':=e2
 refine Subscript_ (Sa W h env s x h1 _ E S e1 fun W1 s1 y X1 S1 r1=>wpAny_Slice ?_)
 rw [evalPart_none,evalPart_some]
 refine wpAny_pure (wpAny_pure (UnaryOp_ (wpAny_Constant_int (_root_.PySem.P.neg_int ?_))))
 refine pL fun G0 hG0=>?_
 obtain ⟨W2,S2,X2,hs⟩:=sl_st (S1.tok (s1.toks + 1 + 1)) .none .none (.int (-1) (s1.toks + 1))
 obtain ⟨q1,q2⟩:=sl_rev S2 hs (r1.mono X2.L) e2 ((g.step X1 S1.rel).step X2 S2.rel) (E:=E)
 refine hG0 ?_
 exact tail_any q1 PyProof.Rows.slot_tuple_getitem.lookup q2 rfl
end
end Mine
namespace Mine
variable {P:Pm} {C:Cx} {W W' W0:Wd} {h h' h0:Hp} {env:List V} {s:Shared} {d n:Nat} {cf:CF} {z:V}
theorem dset_any (ok:POk P) {A:Around} {E:Value→Shared→Prop} {xs:List Row3} {c:KD} {k v:V} {kv y:Value} {I:Addr} {ep:Nat} {es es':List (V×V)} {Q:Unit→Shared→Prop} (S:St P C W h env s) (m:(I,dictOf (xs.map (ent P)) ep)∈W.ns) (D:DOk P W h.n es xs)
  (K:KeyAt P W h.n s.heap k c kv) (hd:headOk (vsort k) es=true) (e:dputGo k v es=some es') (hl:es.length < 1000) (rv:RV P W h.n v y) (hu:A.units + 30 < cLine)
  (q:∀ (hp:Heap) (xs':List Row3) (ep' t:Nat),Heap.SameBut I s.heap hp→hp.get? I=some (dictOf (xs'.map (ent P)) ep')→(∀ W'':Wd,Le W W'' h.n h.n→DOk P W'' h.n es' xs')→Q () { s with heap:=hp,toks:=t }):wpAny (Cx.M P) A (dictSet I kv y) Q E s:=by
 have Vw:=view S.nw (S.nw.get m) D K hd
 have D':=D.put ok S.nw K hd rv e hl
 have hx:xs.length≤1000:=D.len
 have fin:∀ (hp:Heap) (xs':List Row3) (ep' t:Nat),Heap.SameBut I s.heap hp→hp.get? I=some (dictOf (xs'.map (ent P)) ep')→(∀ W'':Wd,Le W W'' h.n h.n→RD P W'' h.n es' xs')→xs'.map (·.1)=(stK xs c kv y).map (·.1)→Q () { s with heap:=hp,toks:=t }:=by
  intro hp xs' ep' t hs ho R hk
  have lx:xs'.length=(stK xs c kv y).length:=by have:=congrArg List.length hk; simpa using this
  exact q hp xs' ep' t hs ho fun W'' L=>⟨R _ L,by rw [hk]; exact D'.nod,by rw [hk]; exact D'.uni,by rw [lx]; exact D'.len,by rw [hk]; exact D'.good⟩
 have lp:∀ {K:Type} {g:K×Value→KD×Value} {kvs:List (K×Value)},kvs.map g=prj xs→kvs.length≤sizeLine:=fun z=>by
  have:=congrArg List.length z
  simp only [List.length_map,prj] at this
  rw [this,sizeLine_eq]; lia
 cases Vw with
 | int j kvs e1 e2 e3 e4=>
  subst e1
  refine wpAny_dictSet_pairs (hsz:=lp e2) e4 e3 fun hp hd' hs=>?_
  refine pL fun G0 hG0=>?_
  obtain ⟨o,des,ep',ho,hx,hdt,hk,hpr,_⟩:=hd'
  have er:=exact_row hx hdt
  have a1:(stored kvs j y).map (embI P).g=prj (stK xs (.int j) kv y):=by rw [(embI P).stored,e2,prj_stK]; rfl
  obtain ⟨xs',b1,b2,b3⟩:=(embI P).back (hp:=hp) (fun k c key=>tokI k c key) D'.rd a1 hpr (pairs_keys hk)
  refine hG0 ?_
  refine fin hp xs' ep' _ hs (by rw [ho,er,b1]) (fun W'' L=>?_) b2
  exact b3.mono L
 | str j kvs e1 e2 e3 e4=>
  subst e1
  refine wpAny_dictSet_pairs (hsz:=lp e2) e4 e3 fun hp hd' hs=>?_
  refine pL fun G0 hG0=>?_
  obtain ⟨o,des,ep',ho,hx,hdt,hk,hpr,_⟩:=hd'
  have er:=exact_row hx hdt
  have a1:(stored kvs j y).map (embS P).g=prj (stK xs (.str j) kv y):=by rw [(embS P).stored,e2,prj_stK]; rfl
  obtain ⟨xs',b1,b2,b3⟩:=(embS P).back (hp:=hp) (fun k c key=>tokS k c key) D'.rd a1 hpr (pairs_keys hk)
  refine hG0 ?_
  refine fin hp xs' ep' _ hs (by rw [ho,er,b1]) (fun W'' L=>?_) b2
  exact b3.mono L
 | tup a ts e1 e2 e3 e4=>
  subst e1 e2
  refine wpAny_dictSet_heap (by show A.units + 20 < cLine; lia) e4 e3 (fun hp hd' hs=>?_) (by rw [sizeLine_eq]; rw [List.length_map] at hx; lia)
  refine pL fun G0 hG0=>?_
  obtain ⟨o,des,ep',ho,hx',hdt,he,his,_⟩:=hd'
  refine hG0 ?_
  have er:=exact_row hx' hdt
  have st:(storedH ts c a y).map back3=stK (ts.map back3) c (.ref a) y:=by
   unfold storedH stK
   have ha:(ts.map back3).any (fun r=>decide (r.1=c))=(atKey ts c).isSome:=by
    unfold atKey
    rw [Option.isSome_map,List.any_map]
    rw [Bool.eq_iff_iff,List.find?_isSome,List.any_eq_true]
    rfl
   rw [ha]
   by_cases w:(atKey ts c).isSome=true
   ·rw [if_pos w,if_pos w,List.map_map,List.map_map]
    refine List.map_congr_left fun t _=>?_
    show back3 (if t.1=c then (t.1,t.2.1,y) else t)=if t.1=c then (t.1,(.ref t.2.1:Value),y) else back3 t
    split <;> rfl
   ·rw [if_neg w,if_neg w,List.map_append]; rfl
  refine fin hp (stK (ts.map back3) c (.ref a) y) ep' _ hs ?_ (fun W'' L=>D'.rd.mono L) rfl
  rw [ho,er,he,← st,List.map_map]
  rfl
theorem dict_nt (xs:List DictEntry) (ep:Nat):¬ Imm (dictOf xs ep):=ni_dict rfl
theorem LI.number {I:Addr} {o:Obj} {ob:O} (l:LI W0 h0 W h I o) (S:St P C W h env s) (hn:h.n < 16000000) (ho:∀ W',Le W W' h.n (h.n + 1)→(I,o)∈W'.ns→RO P W' (h.n + 1) ob I) :
  ∃ W',St P C W' (h.add ob) env s∧Ext W0 W' h0 (h.add ob)∧W'.si h.n=I∧W'.ns=W.ns∧(∀ i,i < h.n→W'.si i=W.si i)∧Le W W' h.n (h.n + 1):=by
 have r:=S.rel
 let W':Wd:=⟨fun i=>if i=h.n then I else W.si i,W.ns⟩
 have e1:∀ i,i < h.n→W'.si i=W.si i:=fun i li=>if_neg (Nat.ne_of_lt li)
 have e2:W'.si h.n=I:=if_pos rfl
 have L:Le W W' h.n (h.n + 1):=⟨Nat.le_succ _,e1,fun _ _ _ m=>m⟩
 have R:Rel P W' (h.add ob):=by
  refine ⟨r.nod,fun i j li lj e=>?_,fun b x e=>?_,fun b lb=>?_,r.res,fun i m=>Nat.lt_succ_of_lt (r.wr i m),r.low,r.non,hn⟩
  ·rcases Nat.lt_succ_iff_lt_or_eq.mp li with li | rfl <;> rcases Nat.lt_succ_iff_lt_or_eq.mp lj with lj | rfl
   ·rw [e1 i li,e1 j lj] at e; exact r.inj i j li lj e
   ·rw [e1 i li,e2] at e; exact absurd e (l.ni i li)
   ·rw [e1 j lj,e2] at e; exact absurd e.symm (l.ni j lj)
   ·rfl
  ·have e':(h.t.put h.n ob).get b=some x:=e
   rw [Tr.get_put h.t ob h.n b (by lia)] at e'
   by_cases hb:h.n=b
   ·rw [if_pos hb] at e'
    (obtain rfl:=Option.some.inj e')
    subst hb
    exact ⟨Nat.lt_succ_self _,by rw [e2]; exact ho W' L l.row⟩
   ·rw [if_neg hb] at e'
    have z:=r.obj b x e'
    exact ⟨Nat.lt_succ_of_lt z.1,by rw [e1 b z.1]; exact z.2.mono L fun _ m=>m⟩
  ·rcases Nat.lt_succ_iff_lt_or_eq.mp lb with lb | rfl
   ·rw [e1 b lb]; exact r.dom b lb
   ·rw [e2]; exact mem_fst l.row
 obtain ⟨m,F,Em⟩:=S.fr
 refine ⟨W',⟨R,⟨m,F,Em.mono L⟩,S.nw,S.gens,S.os⟩,⟨l.ext.L.trans L,l.ext.rs,l.ext.wr,l.ext.dom,fun i p q=>?_,fun b x q k=>l.ext.keep b x q fun i hi=>?_⟩,e2,rfl,e1,L⟩
 ·rcases Nat.lt_succ_iff_lt_or_eq.mp q with q | rfl
  ·rw [e1 i q]; exact l.ext.new i p q
  ·rw [e2]; exact l.old
 ·have:=k i hi
  rwa [e1 i (r.wr i hi)] at this
end Mine
namespace Mine
variable {P:Pm} {C:Cx} {W W' W0:Wd} {h h' h0:Hp} {env:List V} {s:Shared} {d n:Nat} {cf:CF} {z:V}
inductive Prs (P:Pm) (C:Cx) (cf:CF) (z:V):X→List (Option Expr)→List Expr→Prop
 | nil:Prs P C cf z .nil [] []
 | cons {k v r ek ev ks vs}:SndE P C (fun env h=>sem k cf z env h) ek→SndE P C (fun env h=>sem v cf z env h) ev→Prs P C cf z r ks vs→Prs P C cf z (.cons k (.cons v r)) (some ek::ks) (ev::vs)
theorem Prs.all {r:X} {ks:List (Option Expr)} {vs:List Expr} (p:Prs P C cf z r ks vs):ks.all (·.isSome)=true∧ks.length=vs.length:=by
 induction p with
 | nil=>exact ⟨rfl,rfl⟩
 | cons _ _ _ ih=>exact ⟨by rw [List.all_cons,ih.1]; rfl,by rw [List.length_cons,List.length_cons,ih.2]⟩
noncomputable def flat (ys:List (Value×Value)):List Value:=ys.flatMap fun p=>[p.1,p.2]
theorem vs_cons {k v r:X} {xs:List V} (e:sem (.cons k (.cons v r)) cf z env h=.vs xs h'):∃ a h1 b h2 ts,sem k cf z env h=.v a h1∧sem v cf z env h1=.v b h2∧sem r cf z env h2=.vs ts h'∧xs=a::b::ts:=by
 refine pL fun G0 hG0=>?_
 obtain ⟨a,h1,e1,e2⟩:=bv_vs (r:=sem k cf z env h) e
 obtain ⟨bs,h2,e3,e4⟩:=bvs_vs e2
 (obtain ⟨rfl,rfl⟩:=R.vs.inj e4)
 obtain ⟨b,h3,e5,e6⟩:=bv_vs (r:=sem v cf z env h1) e3
 obtain ⟨ts,h4,e7,e8⟩:=bvs_vs e6
 (obtain ⟨rfl,rfl⟩:=R.vs.inj e8)
 refine hG0 ?_
 exact ⟨a,h1,b,h3,ts,e1,e5,e7,rfl⟩
theorem prs_eval {r:X} {ks:List (Option Expr)} {vs:List Expr} (p:Prs P C cf z r ks vs) {pos:Pos} {E:Value→Shared→Prop}:∀ {W h s} {xs:List V} {h':Hp} {Q:List (Value×Value)→Shared→Prop},St P C W h env s→sem r cf z env h=.vs xs h'→
  (∀ W' s' ys,Ext W W' h h'→St P C W' h' env s'→RVs P W' h'.n xs (flat ys)→Q ys s')→wpAny (Cx.M P) C.A (evalPairs (pairTrees ks vs C.env pos)) Q E s:=by
 induction p with
 | nil=>
  intro W h s xs h' Q S e q
  refine pL fun G0 hG0=>?_
  (obtain ⟨rfl,rfl⟩:=R.vs.inj e)
  refine hG0 ?_
  exact evalPairs_nil (q W s [] (Ext.refl W h) S .nil)
 | @cons k v r ek ev ks vs Sk Sv _ ih=>
  intro W h s xs h' Q S e q
  refine pL fun G0 hG0=>?_
  obtain ⟨a,h1,b,h2,ts,e1,e2,e3,rfl⟩:=vs_cons e
  refine hG0 ?_
  refine evalPairs_cons (Sk W h env s a h1 _ E S e1 fun W1 s1 u X1 S1 r1=>wpAny_bind (Sv W1 h1 env s1 b h2 _ E S1 e2 fun W2 s2 w X2 S2 r2=>wpAny_bind (wpAny_standAt (wpAny_pure ?_))))
  refine ih S2 e3 fun W3 s3 ys X3 S3 r3=>q W3 s3 ((u,w)::ys) ((X1.trans X2 S1.rel).trans X3 S2.rel) S3 (.cons ((r1.mono X2.L).mono X3.L) (.cons (r2.mono X3.L) r3))
theorem pairUp_nil:pairUp [] none=some []:=rfl
theorem pairUp_cons {a b:V} {ts:List V} {ps:List (V×V)} (e:pairUp (a::b::ts) none=some ps):∃ r,pairUp ts none=some r∧ps=(a,b)::r:=by
 have e:(match pairUp ts none with | some r=>some ((a,b)::r) | none=>none)=some ps:=e
 split at e
 ·rename_i r hr; (obtain rfl:=Option.some.inj e); exact ⟨r,hr,rfl⟩
 ·exact oX e
theorem dlay_cons {p:V×V} {ps acc es:List (V×V)} (e:dlay (p::ps) acc=some es):∃ a,dput p.1 p.2 acc=some a∧dlay ps a=some es:=by
 have e:(match dput p.1 p.2 acc with | some a=>dlay ps a | none=>none)=some es:=e
 split at e
 ·rename_i a ha; exact ⟨a,ha,e⟩
 ·exact oX e
theorem dputGo_len {k v:V}:∀ {l r:List (V×V)},dputGo k v l=some r→r.length≤l.length + 1
 | [],r,e=>by (obtain rfl:=Option.some.inj e); exact Nat.le_refl _
 | p::l,r,e=>by
  have e:(match veq p.1 k with
   | some true=>some ((p.1,v)::l)
   | some false=>(match dputGo k v l with | some r'=>some (p::r') | none=>none)
   | none=>none)=some r:=e
  split at e
  ·(obtain rfl:=Option.some.inj e); simp
  ·split at e
   ·rename_i r' hr; (obtain rfl:=Option.some.inj e); have:=dputGo_len hr; simp only [List.length_cons]; lia
   ·exact oX e
  ·exact oX e
theorem dput_len {k v:V} {l r:List (V×V)} (e:dput k v l=some r):r.length≤l.length + 1:=dputGo_len (onB_some e).2
theorem store_one (ok:C.Ok P d) {I:Addr} {rows:List Row3} {ep:Nat} {k v:V} {u w:Value} {es es':List (V×V)} {E:Value→Shared→Prop} {Q:Unit→Shared→Prop} (S:St P C W h env s) (l:LI W0 h0 W h I (dictOf (rows.map (ent P)) ep)) (D:DOk P W h.n es rows)
  (rk:RV P W h.n k u) (rv:RV P W h.n v w) (e:dput k v es=some es') (hl:es.length < 1000)
  (q:∀ W' s' rows' ep',LI W0 h0 W' h I (dictOf (rows'.map (ent P)) ep')→St P C W' h env s'→DOk P W' h.n es' rows'→Le W W' h.n h.n→Q () s'):wpAny (Cx.M P) C.A (dictSet I u w) Q E s:=by
 refine pL fun G0 hG0=>?_
 obtain ⟨e1,e2⟩:=onB_some e
 obtain ⟨q1,q2,_⟩:=b3_eq.mp e1
 obtain ⟨c,KA⟩:=keyAt ok.pok S.nw rk q1
 refine hG0 ?_
 refine dset_any ok.pok S l.row D KA q2 e2 hl rv (by have:=ok.units; show C.A.units + 30 < 9900; lia) fun hp rows' ep' t hs ho D'=>?_
 obtain ⟨S',l',L⟩:=l.setSt S (dict_nt _ _) hs ho t
 exact q _ _ rows' ep' l' S' (D' _ L) L
theorem store_all (ok:C.Ok P d) {I:Addr} {E:Value→Shared→Prop}:∀ (ys:List (Value×Value)) {W s} {rows:List Row3} {ep:Nat} {xs:List V} {ps es es':List (V×V)} {Q:PUnit→Shared→Prop},St P C W h env s→LI W0 h0 W h I (dictOf (rows.map (ent P)) ep)→DOk P W h.n es rows→
  RVs P W h.n xs (flat ys)→pairUp xs none=some ps→dlay ps es=some es'→es.length + ps.length < 1000→
  (∀ W' s' rows' ep',LI W0 h0 W' h I (dictOf (rows'.map (ent P)) ep')→St P C W' h env s'→DOk P W' h.n es' rows'→Q PUnit.unit s')→wpAny (Cx.M P) C.A (storeAll I ys) Q E s:=by
 intro ys
 induction ys with
 | nil=>
  intro W s rows ep xs ps es es' Q S l D rs ep1 el hl q
  refine pL fun G0 hG0=>?_
  cases rs
  (obtain rfl:=Option.some.inj ep1)
  (obtain rfl:=Option.some.inj el)
  refine hG0 ?_
  exact wpAny_pure (q W s rows ep l S D)
 | cons y ys ih=>
  intro W s rows ep xs ps es es' Q S l D rs ep1 el hl q
  obtain ⟨u,w⟩:=y
  have rs:RVs P W h.n xs (u::w::flat ys):=rs
  cases rs with
  | cons r1 rs=>cases rs with
   | cons r2 rs=>
    refine pL fun G0 hG0=>?_
    obtain ⟨r,er,rfl⟩:=pairUp_cons ep1
    obtain ⟨a,ea,el'⟩:=dlay_cons el
    refine hG0 ?_
    have:=dput_len ea
    simp only [List.length_cons] at hl
    unfold storeAll
    rw [List.forIn_cons]
    refine wpAny_bind (wpAny_bind (store_one ok S l D r1 r2 ea (by lia) fun W1 s1 rows1 ep1' l1 S1 D1 L1=>wpAny_pure ?_))
    exact ih S1 l1 D1 (rs.mono L1) er el' (by lia) q
theorem DOk.nil:DOk P W n [] []:=⟨.nil,.nil,.inl fun _ h=>(nomatch h),by simp,fun _ h=>(nomatch h)⟩
theorem dct_v {kx:U} {v:V} (e:cDct kx cf z env h=.v v h'):∃ xs h1 ps es,kx cf z env h=.vs xs h1∧pairUp xs none=some ps∧dlay ps []=some es∧ps.length < 900∧R.new h1 (.dict es)=.v v h':=by
 refine pL fun G0 hG0=>?_
 obtain ⟨xs,h1,e1,e2⟩:=bvs_v e
 obtain ⟨ps,e3,e4⟩:=ofO_v e2
 obtain ⟨es,e5,e6⟩:=ofO_v e4
 obtain ⟨e7,e8⟩:=lid_v e6
 refine hG0 ?_
 rw [blt_eq,decide_eq_true_iff] at e7
 exact ⟨xs,h1,ps,es,e1,e3,e5,e7,e8⟩
theorem rule_dct0 {pos:Pos}:SndE P C (fun env h=>cDct cNil cf z env h) (.Dict [] [] pos):=by
 intro W h env s v h' Q E S e g
 refine pL fun G0 hG0=>?_
 obtain ⟨xs,h1,ps,es,e1,e2,e3,_,e5⟩:=dct_v e
 (obtain ⟨rfl,rfl⟩:=R.vs.inj e1)
 (obtain rfl:=Option.some.inj e2)
 (obtain rfl:=Option.some.inj e3)
 obtain ⟨e6,rfl,rfl⟩:=new_v e5
 refine hG0 ?_
 refine wpAny_Dict_empty ?_
 refine pL fun G0 hG0=>?_
 obtain ⟨S1,l⟩:=rawRow S (dictOf [] 0) rfl
 obtain ⟨W',S2,X2,e7,_⟩:=l.number (ob:=.dict []) S1 e6 fun W' L m=>⟨[],0,m,DOk.nil⟩
 refine hG0 ?_
 refine g _ _ _ X2 S2 ?_
 simp only [RV]
 exact ⟨Nat.lt_succ_self _,by rw [e7]⟩
theorem rule_dct (ok:C.Ok P d) {kx:X} {ks:List (Option Expr)} {vs:List Expr} {pos:Pos} (p:Prs P C cf z kx ks vs) (h0:ks≠[]) (hl:ks.length≤15):SndE P C (fun env h=>cDct (sem kx) cf z env h) (.Dict ks vs pos):=by
 intro W h env s v h' Q E S e g
 refine pL fun G0 hG0=>?_
 obtain ⟨xs,h1,ps,es,e1,e2,e3,e4,e5⟩:=dct_v e
 obtain ⟨e6,rfl,rfl⟩:=new_v e5
 obtain ⟨S1,l1⟩:=rawRow S (dictOf [] 0) rfl
 refine hG0 ?_
 refine wpAny_Dict_any p.all.1 p.all.2 h0 hl ?_
 refine prs_eval p S1 e1 fun W2 s2 ys X2 S2 r2=>?_
 have l2:=l1.step S1.rel X2 S2.rel
 refine store_all (rows:=[]) ok ys S2 l2 DOk.nil r2 e2 e3 (by simp; lia) fun W3 s3 rows ep l3 S3 D3=>?_
 obtain ⟨W',S4,X4,e7,_⟩:=l3.number (ob:=.dict es) S3 e6 fun W' L m=>⟨rows,ep,m,D3.mono L⟩
 refine g _ _ _ X4 S4 ?_
 simp only [RV]
 exact ⟨Nat.lt_succ_self _,by rw [e7]⟩
end Mine
namespace Mine
theorem forIn_gatherR (f:(Option (Sem Value)×Sem Value)→(Option Addr×List (Sem Value×Sem Value))→Sem (ForInStep (Option Addr×List (Sem Value×Sem Value)))) (rest:List (Option (Sem Value)×Sem Value))
  (hf:∀ (p:Sem Value×Sem Value) (run:List (Sem Value×Sem Value)),run.length + 1 < 17→f (some p.1,p.2) (none,run)=pure (.yield (none,run ++ [p]))) :
  ∀ (items run:List (Sem Value×Sem Value)),run.length + items.length < 17→forIn ((items.map fun p=>(some p.1,p.2)) ++ rest) ((none:Option Addr),run) f=forIn rest ((none:Option Addr),run ++ items) f
 | [],run,_=>by simp
 | p::its,run,h=>by
  rw [List.map_cons,List.cons_append,List.forIn_cons,hf p run (by simp at h; lia),pure_bind]
  have:=forIn_gatherR f rest hf its (run ++ [p]) (by simp at h ⊢; lia)
  simpa using this
theorem display18 (a:List (Sem Value×Sem Value)) (p q:Sem Value×Sem Value) (hl:a.length=16) :
  dictDisplay ((a.map fun p=>(some p.1,p.2)) ++ [(some p.1,p.2),(some q.1,q.2)])=(do
   let d ← subDict (a ++ [p])
   let sub ← holding [.ref d] (subDict [q])
   (holding [.ref d,.ref sub] (mergeMapping d (.ref sub) false)).onRaise fun x=>do let _ ← holding [.ref d,x] (runValue (.builtin "proto.let_go" {}))
   pure (.ref d)):=by
 unfold dictDisplay
 dsimp only
 rw [forIn_gatherR _ _ (fun p run h=>by
  have hne:((run ++ [(p.1,p.2)]).length == 17)=false:=by simp; lia
  simp only [hne,Bool.false_eq_true,if_false]) a [] (by simp; lia)]
 have h17:(([] ++ a ++ [(p.1,p.2)]).length == 17)=true:=by simp [hl]
 have h1:(([] ++ [(q.1,q.2)]:List (Sem Value×Sem Value)).length == 17)=false:=rfl
 have hne:([] ++ a ++ [(p.1,p.2)]).isEmpty=false:=by simp
 simp only [List.forIn_cons,List.forIn_nil,h17,h1,hne,if_true,if_false,Bool.false_eq_true]
 simp only [bind_assoc,pure_bind,List.nil_append,List.length_singleton,List.isEmpty_nil,List.isEmpty_cons,Bool.false_eq_true,if_false]
 have e17:((1:Nat) == 17)=false:=rfl
 simp only [e17,Bool.false_eq_true,if_false,pure_bind,List.isEmpty_cons,bind_assoc]
section
variable {prog:Program} {w:World} {K:Type} [DecidableEq K] {knd:KeyKind prog w K} {A:Around} {E:Value→Shared→Prop} {s:Shared}
theorem dictPut_pairs {d:Addr} {kvs:List (K×Value)} {k:K} {key v:Value} {Q:Unit→Shared→Prop} (hkey:knd.is k key=true) (hm:s.heap.DictOf knd d kvs)
  (hQ:∀ h',h'.DictOf knd d (stored kvs k v)→Heap.SameBut d s.heap h'→Q () { s with heap:=h' }) (hsz:kvs.length≤sizeLine) :
  wpAny (model prog w) A (dictPut d (knd.hash k) key v) Q E s:=by
 refine pL fun G0 hG0=>?_
 obtain ⟨o,es,ep,ho,hc,hd,hk,hp,hn⟩:=hm
 refine hG0 ?_
 have hes:es.size≤sizeLine:=by
  have e1:=hp.length
  have e2:es.toList.length=es.size:=by simp
  lia
 unfold dictPut
 refine wpAny_bind (wpAny_dictFind_of hkey ho hd hk ?_)
 have hidx:(es.findIdx? fun e=>knd.is k e.key)=kvs.findIdx? fun kv=>decide (kv.1=k):=by
  rw [← hp.findIdx k]; obtain ⟨l⟩:=es; simp
 induction hi:es.findIdx? fun e=>knd.is k e.key using Option.casesOn with
 | some i=>
  refine wpAny_updateDict ho hd (hQ _ ⟨_,_,ep,Heap.get?_update_self _ ho (Obj.isFreed_of_dict (Obj.data_mapDict hd _)),
   hc.mapDict _,Obj.data_mapDict hd _,hk.modify _ _,?_,?_⟩ (Heap.SameBut.update ..))
  ·rw [stored,if_pos (any_of_findIdx_some (hidx▸hi))]
   have hl:(es.toList.findIdx? fun e=>knd.is k e.key)=some i:=by rw [← hi]; obtain ⟨l⟩:=es; simp
   have:=hp.modify hn hl v
   obtain ⟨l⟩:=es
   simpa using this
  ·rw [stored,if_pos (any_of_findIdx_some (hidx▸hi)),keys_map_store]; exact hn
 | none=>
  have hnot:k∉kvs.map (·.1):=not_mem_of_findIdx_none (hidx▸hi)
  have hany:¬ (kvs.any fun kv=>decide (kv.1=k))=true:=by
   rw [List.any_eq_true]; rintro ⟨kv,hkv,he⟩
   exact hnot (List.mem_map.mpr ⟨kv,hkv,of_decide_eq_true he⟩)
  refine wpAny_updateDictKeys (hz:=hes) ho hd (hQ _ ⟨_,_,ep + 1,Heap.get?_update_self _ ho (Obj.isFreed_of_dict (Obj.data_mapDictKeys hd _)),
   hc.mapDictKeys _,Obj.data_mapDictKeys hd _,hk.push hkey _,?_,?_⟩ (Heap.SameBut.update ..))
  ·rw [stored,if_neg hany]
   have:=hp.append hkey (knd.hash k) v
   obtain ⟨l⟩:=es
   simpa using this
  ·rw [stored,if_neg hany,List.map_append,List.nodup_append]
   refine ⟨hn,by simp,?_⟩
   intro a ha b hb
   simp only [List.map_cons,List.map_nil,List.mem_singleton] at hb
   subst hb
   exact fun e=>hnot (e▸ha)
theorem merge_one {d b:Addr} {kvs:List (K×Value)} {k:K} {v:Value} {Q:Unit→Shared→Prop} (hm:s.heap.DictOf knd d kvs) (h0:kvs≠[]) (hb:s.heap.DictOf knd b [(k,v)]) (lo:(b == sysModules)=false) (hdb:b≠d)
  (hQ:∀ h',h'.DictOf knd d (stored kvs k v)→Heap.SameBut d s.heap h'→Q () { s with heap:=h' }) (hsz:kvs.length≤sizeLine):wpAny (model prog w) A (mergeMapping d (.ref b) false) Q E s:=by
 refine pL fun G0 hG0=>?_
 obtain ⟨o,es,ep,ho,hc,hd,hk,hp,hn⟩:=id hm
 obtain ⟨o2,es2,ep2,ho2,hc2,hd2,hk2,hp2,hn2⟩:=id hb
 refine hG0 ?_
 have hl2:es2.size=1:=by
  have e1:=hp2.length
  have e2:es2.toList.length=es2.size:=by simp
  simpa using e2.symm.trans (e1.symm▸rfl)
 have hl:es.isEmpty=false:=by
  have e1:=hp.length
  have e2:es.toList.length=es.size:=by simp
  have e3:kvs.length≠0:=fun q=>h0 (List.eq_nil_of_length_eq_zero q)
  rw [Array.isEmpty_eq_false_iff]
  intro q
  have e4:es.size=0:=by rw [q]; rfl
  lia
 unfold mergeMapping
 refine wpAny_bind (wpAny_isInstance hb.typeIs isSubtype_dict_dict ?_)
 rw [if_pos rfl]
 refine wpAny_bind (wpAny_specialOf hb.typeIs F.slot_dict_iter.lookup (wpAny_bind (wpAny_pure ?_)))
 rw [show ((some (Value.builtin "dict.__iter__")) == some (Value.builtin "dict.__iter__"))=true from beq_self_eq_true _]
 dsimp only
 rw [lo]
 simp only [Bool.false_eq_true,if_false]
 refine wpAny_bind (wpAny_dictEntries ho hd ?_)
 rw [hl]
 simp only [Bool.false_eq_true,if_false]
 refine wpAny_bind (wpAny_dictEntries ho2 hd2 (wpAny_bind (wpAny_dictEpoch ho2 hd2 ?_)))
 rw [hl2]
 obtain ⟨e,he,hek,hev,heh⟩:∃ e,es2=#[e]∧knd.is k e.key=true∧e.val=v∧e.hash=knd.hash k:=by
  obtain ⟨l⟩:=es2
  have hp2:Pairs knd l [(k,v)]:=hp2
  have z:∃ e,l=[e]∧knd.is k e.key=true∧e.val=v:=by
   cases hp2 with
   | cons a1 a2 a3=>cases a3; exact ⟨_,rfl,a1,a2⟩
  obtain ⟨e,rfl,a1,a2⟩:=z
  obtain ⟨k',hk',hh⟩:=hk2 e (by simp)
  exact ⟨e,rfl,a1,a2,by rw [hh,knd.inj _ _ _ hk' a1]⟩
 subst he
 rw [show List.range 1=[0] from rfl,List.forIn_cons]
 simp only [List.forIn_nil]
 refine wpAny_bind (wpAny_bind (wpAny_bind (wpAny_dictEntries ho2 hd2 ?_)))
 show wpAny _ _ (do
  holding [e.key,e.val] (dictPut d e.hash e.key e.val)
  let __do_lift ← dictEpoch b
  if (__do_lift != ep2)=true then do
    unsupported "dict.changed-during-merge"
    pure (ForInStep.yield PUnit.unit)
   else pure (ForInStep.yield PUnit.unit)) _ _ _
 rw [heh,hev]
 refine wpAny_bind (wpAny_holding (dictPut_pairs hek hm (fun hp' hd' hs=>?_) hsz))
 refine wpAny_bind (wpAny_dictEpoch (s:={ s with heap:=hp' }) ((hs.2 b hdb).trans ho2) hd2 ?_)
 rw [show (ep2 != ep2)=false from bne_self_eq_false _]
 simp only [Bool.false_eq_true,if_false]
 exact wpAny_pure (wpAny_pure (wpAny_pure (hQ hp' hd' hs)))
end
end Mine
namespace Mine
variable {P:Pm} {C:Cx} {W W' W0:Wd} {h h' h0:Hp} {env:List V} {s:Shared} {d n:Nat} {cf:CF} {z:V}
inductive PrsT (P:Pm) (C:Cx) (cf:CF) (z:V) (t:X):X→List (Option Expr)→List Expr→Prop
 | nil:PrsT P C cf z t t [] []
 | cons {k v r ek ev ks vs}:SndE P C (fun env h=>sem k cf z env h) ek→SndE P C (fun env h=>sem v cf z env h) ev→PrsT P C cf z t r ks vs→PrsT P C cf z t (.cons k (.cons v r)) (some ek::ks) (ev::vs)
theorem PrsT.all {r t:X} {ks:List (Option Expr)} {vs:List Expr} (p:PrsT P C cf z t r ks vs):ks.all (·.isSome)=true∧ks.length=vs.length:=by
 induction p with
 | nil=>exact ⟨rfl,rfl⟩
 | cons _ _ _ ih=>exact ⟨by rw [List.all_cons,ih.1]; rfl,by rw [List.length_cons,List.length_cons,ih.2]⟩
theorem dput_ne {k v:V} {l r:List (V×V)} (e:dput k v l=some r):r≠[]:=by
 obtain ⟨_,e⟩:=onB_some e
 induction l using List.casesOn with
 | nil=>(obtain rfl:=Option.some.inj e); simp
 | cons p l=>
  have e:(match veq p.1 k with
   | some true=>some ((p.1,v)::l)
   | some false=>(match dputGo k v l with | some r'=>some (p::r') | none=>none)
   | none=>none)=some r:=e
  split at e
  ·(obtain rfl:=Option.some.inj e); simp
  ·split at e
   ·(obtain rfl:=Option.some.inj e); simp
   ·exact oX e
  ·exact oX e
theorem prs_loop (ok:C.Ok P d) {r t:X} {ks:List (Option Expr)} {vs:List Expr} (p:PrsT P C cf z t r ks vs) {pos:Pos} {I:Addr} {E:Value→Shared→Prop}:∀ {W h s} {rows:List Row3} {ep:Nat} {xs:List V} {h':Hp} {ps es esf:List (V×V)} {Q:PUnit→Shared→Prop},
  St P C W h env s→LI W0 h0 W h I (dictOf (rows.map (ent P)) ep)→DOk P W h.n es rows→sem r cf z env h=.vs xs h'→pairUp xs none=some ps→dlay ps es=some esf→es.length + ps.length < 1000→
  (∀ W1 h1 s1 rows1 ep1 es1 xs1 ps1,LI W0 h0 W1 h1 I (dictOf (rows1.map (ent P)) ep1)→St P C W1 h1 env s1→DOk P W1 h1.n es1 rows1→sem t cf z env h1=.vs xs1 h'→pairUp xs1 none=some ps1→dlay ps1 es1=some esf→es1.length + ps1.length < 1000→
   (es≠[]∨ks≠[]→es1≠[])→Q PUnit.unit s1)→
  wpAny (Cx.M P) C.A (forIn (pairTrees ks vs C.env pos) PUnit.unit fun (x:Sem Value×Sem Value) (_:PUnit)=>(do
   let kv ← x.1
   let vv ← holding [kv] x.2
   holding [kv,vv] (dictSet I kv vv)
   pure (ForInStep.yield PUnit.unit):Sem (ForInStep PUnit))) Q E s:=by
 induction p with
 | nil=>
  intro W h s rows ep xs h' ps es esf Q S l D e e1 e2 hl q
  exact wpAny_pure (q W h s rows ep es xs ps l S D e e1 e2 hl fun q=>q.elim id fun q=>absurd rfl q)
 | @cons k v r ek ev ks vs Sk Sv _ ih=>
  intro W h s rows ep xs h' ps es esf Q S l D e ep1 el hl q
  refine pL fun G0 hG0=>?_
  obtain ⟨a,h1,b,h2,ts,e1,e2,e3,rfl⟩:=vs_cons e
  obtain ⟨r',er,rfl⟩:=pairUp_cons ep1
  obtain ⟨a',ea,el'⟩:=dlay_cons el
  refine hG0 ?_
  have hla:=dput_len ea
  simp only [List.length_cons] at hl
  show wpAny _ _ (forIn ((eval ek C.env,do let x ← eval ev C.env; standAt pos; pure x)::pairTrees ks vs C.env pos) _ _) Q E s
  rw [List.forIn_cons]
  refine wpAny_bind (wpAny_bind (Sk W h env s a h1 _ E S e1 fun W1 s1 u X1 S1 r1=>wpAny_bind (wpAny_holding (wpAny_bind (Sv W1 h1 env s1 b h2 _ E S1 e2 fun W2 s2 w X2 S2 r2=>wpAny_bind (wpAny_standAt (wpAny_pure ?_)))))))
  have l2:=(l.step S.rel X1 S1.rel).step S1.rel X2 S2.rel
  refine wpAny_bind (wpAny_holding (store_one ok S2 l2 ((D.mono X1.L).mono X2.L) (r1.mono X2.L) r2 ea (by lia) fun W3 s3 rows3 ep3 l3 S3 D3 L3=>wpAny_pure ?_))
  refine ih S3 l3 D3 e3 er el' (by lia) fun W4 h4 s4 rows4 ep4 es4 xs4 ps4 l4 S4 D4 f1 f2 f3 f4 f5=>q W4 h4 s4 rows4 ep4 es4 xs4 ps4 l4 S4 D4 f1 f2 f3 f4 fun _=>f5 (.inl (dput_ne ea))
theorem pairTrees_app:∀ (k1:List (Option Expr)) (v1:List Expr) (k2:List (Option Expr)) (v2:List Expr) (env:Env) (pos:Pos),k1.all (·.isSome)=true→k1.length=v1.length→pairTrees (k1 ++ k2) (v1 ++ v2) env pos=pairTrees k1 v1 env pos ++ pairTrees k2 v2 env pos
 | [],[],_,_,_,_,_,_=>rfl
 | [],_::_,_,_,_,_,_,h=>by simp at h
 | _::_,[],_,_,_,_,_,h=>by simp at h
 | none::_,_::_,_,_,_,_,h,_=>by simp at h
 | some k::ks,v::vs,k2,v2,env,pos,h,hl=>by
  have ih:=pairTrees_app ks vs k2 v2 env pos (by simpa using h) (by simpa using hl)
  show (eval k env,(do let x ← eval v env; standAt pos; pure x))::pairTrees (ks ++ k2) (vs ++ v2) env pos=_
  rw [ih]; rfl
theorem mset_int (ok:POk P) {A:Around} {E:Value→Shared→Prop} {xs rj:List Row3} {c:KD} {k v:V} {kv:Value} {I J:Addr} {ep epj:Nat} {es es':List (V×V)} {Q:Unit→Shared→Prop} (S:St P C W h env s) (m:(I,dictOf (xs.map (ent P)) ep)∈W.ns) (D:DOk P W h.n es xs)
  (mj:(J,dictOf (rj.map (ent P)) epj)∈W.ns) (Dj:DOk P W h.n [(k,v)] rj) (hJI:J≠I) (K:KeyAt P W h.n s.heap k c kv) (hs1:vsort k=1) (h0:es≠[]) (hd:headOk (vsort k) es=true) (e:dputGo k v es=some es') (hl:es.length < 1000)
  (q:∀ (hp:Heap) (xs':List Row3) (ep' t:Nat),Heap.SameBut I s.heap hp→hp.get? I=some (dictOf (xs'.map (ent P)) ep')→(∀ W'':Wd,Le W W'' h.n h.n→DOk P W'' h.n es' xs')→Q () { s with heap:=hp,toks:=t }):wpAny (Cx.M P) A (mergeMapping I (.ref J) false) Q E s:=by
 refine pL fun G0 hG0=>?_
 have z:c.sort=1:=(sort_of K.kd).symm.trans hs1
 obtain ⟨i,rfl⟩:=sort_I z
 have hss:=sort_all D K.kd hd
 obtain ⟨kvs,a1,a2⟩:=(embI P).dictOf S.nw (S.nw.get m) D.rd D.nod fun q hq=>sort_I ((hss q hq).trans z)
 refine hG0 ?_
 have hj:∃ key y,rj=[(.int i,key,y)]∧RV P W h.n v y:=by
  have R:=Dj.rd
  cases R with
  | cons e1 r1 r2 R'=>
   cases R'
   rw [K.kd] at e1
   (obtain rfl:=Option.some.inj e1)
   exact ⟨_,_,rfl,r2⟩
 obtain ⟨key,y,rfl,rv⟩:=hj
 obtain ⟨kvj,b1,b2⟩:=(embI P).dictOf S.nw (S.nw.get mj) Dj.rd Dj.nod fun q hq=>by
  obtain rfl:=List.mem_singleton.mp hq
  exact ⟨i,rfl⟩
 have hkv:kvj=[(i,y)]:=by
  induction kvj using List.casesOn with
  | nil=>exact lX b1
  | cons p l=>
   obtain ⟨a,b⟩:=p
   induction l using List.casesOn with
   | nil=>
    have b1:[((embI P).f a,b)]=[((KD.int i:KD),y)]:=b1
    have z1:(embI P).f a=(embI P).f i∧b=y:=by
     have:=List.head_eq_of_cons_eq b1
     exact ⟨congrArg Prod.fst this,congrArg Prod.snd this⟩
    rw [(embI P).inj _ _ z1.1,z1.2]
   | cons _ _=>cases b1
 subst hkv
 have D':=D.put ok S.nw K hd rv e hl
 have hx:xs.length≤1000:=D.len
 have lk:kvs.length=xs.length:=by
  have:=congrArg List.length a1
  simpa [prj] using this
 refine merge_one a2 ?_ b2 (beq_eq_false_iff_ne.mpr (Nat.ne_of_gt (S.rel.low _ mj))) hJI (fun hp hd' hs=>?_) (by rw [sizeLine_eq]; lia)
 ·intro w
  rw [w] at lk
  have:=rd_len D.rd
  exact h0 (List.eq_nil_of_length_eq_zero (by rw [this,← lk]; rfl))
 ·obtain ⟨o,des,ep',ho,hxd,hdt,hk,hpr,_⟩:=hd'
  refine pL fun G0 hG0=>?_
  have er:=exact_row hxd hdt
  have a3:(stored kvs i y).map (embI P).g=prj (stK xs (.int i) kv y):=by rw [(embI P).stored,a1,prj_stK]; rfl
  obtain ⟨xs',c1,c2,c3⟩:=(embI P).back (hp:=hp) (fun k c key=>tokI k c key) D'.rd a3 hpr (pairs_keys hk)
  refine hG0 ?_
  have lx:xs'.length=(stK xs (.int i) kv y).length:=by have:=congrArg List.length c2; simpa using this
  exact q hp xs' ep' s.toks hs (by rw [ho,er,c1]) fun W'' L=>⟨c3.mono L,by rw [c2]; exact D'.nod,by rw [c2]; exact D'.uni,by rw [lx]; exact D'.len,by rw [c2]; exact D'.good⟩
theorem sub_long (ok:C.Ok P d) {r t:X} {ks:List (Option Expr)} {vs:List Expr} (p:PrsT P C cf z t r ks vs) {pos:Pos} {E:Value→Shared→Prop} (hl:15 < ks.length) {xs:List V} {h':Hp} {ps esf:List (V×V)} {Q:Addr→Shared→Prop}
  (S:St P C W h env s) (e:sem r cf z env h=.vs xs h') (e1:pairUp xs none=some ps) (e2:dlay ps []=some esf) (hl2:ps.length < 1000)
  (q:∀ W1 h1 s1 rows1 ep1 es1 xs1 ps1,LI W h W1 h1 s.heap.objs.size (dictOf (rows1.map (ent P)) ep1)→St P C W1 h1 env s1→DOk P W1 h1.n es1 rows1→sem t cf z env h1=.vs xs1 h'→pairUp xs1 none=some ps1→dlay ps1 es1=some esf→es1.length + ps1.length < 1000→
   es1≠[]→Q s.heap.objs.size s1):wpAny (Cx.M P) C.A (subDict (pairTrees ks vs C.env pos)) Q E s:=by
 refine pL fun G0 hG0=>?_
 obtain ⟨a1,a2⟩:=p.all
 have hpt:(pairTrees ks vs C.env pos).length=ks.length:=pairTrees_length ks vs C.env pos a1 a2
 obtain ⟨S1,l1⟩:=rawRow S (dictOf [] 0) rfl
 refine hG0 ?_
 unfold subDict
 refine wpAny_bind (wpAny_alloc ?_)
 refine wpAny_bind (wpAny_holding ?_)
 rw [if_neg (by rw [hpt]; lia)]
 refine wpAny_bind (wpAny_rule ?_)
 refine wpAny_bind (prs_loop (rows:=[]) ok p S1 l1 DOk.nil e e1 e2 (by simp; omega) fun W2 h2 s2 rows2 ep2 es2 xs2 ps2 l2 S2 D2 f1 f2 f3 f4 f5=>?_)
 refine wpAny_pure (wpAny_pure (q W2 h2 s2 rows2 ep2 es2 xs2 ps2 l2 S2 D2 f1 f2 f3 f4 (f5 (.inr ?_))))
 intro q
 rw [q] at hl
 simp at hl
theorem rule_dct18 (ok:C.Ok P d) {kx kt vt:X} {ks:List (Option Expr)} {vs:List Expr} {ek ev:Expr} {pos:Pos} (p:PrsT P C cf z (.cons kt (.cons vt .nil)) kx ks vs) (h17:ks.length=17) (Sk:SndE P C (fun env h=>sem kt cf z env h) ek) (Sv:SndE P C (fun env h=>sem vt cf z env h) ev)
  (hint:∀ env h a h1,sem kt cf z env h=.v a h1→vsort a=1):SndE P C (fun env h=>cDct (sem kx) cf z env h) (.Dict (ks ++ [some ek]) (vs ++ [ev]) pos):=by
 intro W h env s v h' Q E S e g
 obtain ⟨xs,h1,ps,es,e1,e2,e3,e4,e5⟩:=dct_v e
 obtain ⟨e6,rfl,rfl⟩:=new_v e5
 obtain ⟨a1,a2⟩:=p.all
 have hpt:(pairTrees ks vs C.env pos).length=17:=by rw [pairTrees_length ks vs C.env pos a1 a2,h17]
 obtain ⟨A16,p17,hA,hl16⟩:∃ A p,pairTrees ks vs C.env pos=A ++ [p]∧A.length=16:=by
  refine ⟨(pairTrees ks vs C.env pos).dropLast,(pairTrees ks vs C.env pos).getLast (fun q=>by rw [q] at hpt; cases hpt),(List.dropLast_concat_getLast _).symm,by rw [List.length_dropLast]; lia⟩
 have all':(ks ++ [some ek]).all (·.isSome)=true:=by rw [List.all_append,a1]; rfl
 have len':(ks ++ [some ek]).length=(vs ++ [ev]).length:=by rw [List.length_append,List.length_append,a2]; rfl
 rw [arm_eval_Dict,zip_pairTrees _ _ _ _ all' len',pairTrees_app ks vs _ _ _ _ a1 a2,hA]
 show wpAny _ _ (do standAt pos; dictDisplay ((A16 ++ [p17] ++ [(eval ek C.env,do let x ← eval ev C.env; standAt pos; pure x)]).map fun (p:Sem Value×Sem Value)=>(some p.1,p.2))) Q E s
 rw [List.append_assoc,List.map_append]
 show wpAny _ _ (do standAt pos; dictDisplay ((A16.map fun (p:Sem Value×Sem Value)=>(some p.1,p.2)) ++ [(some p17.1,p17.2),(some (eval ek C.env),do let x ← eval ev C.env; standAt pos; pure x)])) Q E s
 rw [display18 A16 p17 (eval ek C.env,do let x ← eval ev C.env; standAt pos; pure x) hl16]
 refine wpAny_bind (wpAny_standAt (wpAny_bind ?_))
 rw [← hA]
 refine sub_long ok p (by lia) S e1 e2 e3 (by lia) fun W2 h2 s2 rows2 ep2 es2 xs2 ps2 l2 S2 D2 f1 f2 f3 f4 f5=>?_
 refine pL fun G0 hG0=>?_
 obtain ⟨ka,hk,va,hv,ts,g1,g2,g3,rfl⟩:=vs_cons f1
 cases g3
 refine hG0 ?_
 refine wpAny_bind (wpAny_holding (wpAny_subDict_any (by simp) ?_))
 obtain ⟨S3,l3⟩:=rawRow S2 (dictOf [] 0) rfl
 refine evalPairs_cons (Sk _ _ env _ ka hk _ E S3 g1 fun W4 s4 u X4 S4 r4=>wpAny_bind (Sv _ _ env _ va h1 _ E S4 g2 fun W5 s5 w X5 S5 r5=>wpAny_bind (wpAny_standAt (wpAny_pure ?_))))
 refine evalPairs_nil ?_
 refine pL fun G0 hG0=>?_
 have l5:=(l3.step S3.rel X4 S4.rel).step S4.rel X5 S5.rel
 obtain ⟨r',er,rfl⟩:=pairUp_cons f2
 cases er
 obtain ⟨a',ea,el'⟩:=dlay_cons f3
 cases el'
 have lI:LI W h W5 h1 s.heap.objs.size (dictOf (rows2.map (ent P)) ep2):=((l2.step S2.rel l3.ext S3.rel).step S3.rel X4 S4.rel).step S4.rel X5 S5.rel
 have L5:Le W2 W5 h2.n h1.n:=(l3.ext.L.trans X4.L).trans X5.L
 have D5:=D2.mono L5
 obtain ⟨q1,q2⟩:=onB_some ea
 obtain ⟨k1,k2,_⟩:=b3_eq.mp q1
 have rk:=r4.mono X5.L
 obtain ⟨c,KA⟩:=keyAt ok.pok S5.nw rk k1
 refine hG0 ?_
 have hsort:=hint _ _ _ _ g1
 unfold storeAll
 rw [List.forIn_cons]
 simp only [List.forIn_nil]
 have ej:dput ka va []=some [(ka,va)]:=by
  show onB (b3 (vkey ka) (headOk (vsort ka) []) true) (dputGo ka va [])=_
  rw [k1]; rfl
 refine wpAny_bind (wpAny_bind (store_one (rows:=[]) ok S5 l5 DOk.nil rk r5 ej (by simp) fun W6 s6 rows6 ep6 l6 S6 D6 L6=>wpAny_pure (wpAny_pure ?_)))
 have lI:=l2.step S2.rel l6.ext S6.rel
 obtain ⟨c6,KA6⟩:=keyAt ok.pok S6.nw (rk.mono L6) k1
 refine wpAny_bind (wpAny_onRaise (wpAny_holding (mset_int ok.pok S6 lI.row (D5.mono L6) l6.row D6 ?_ KA6 hsort f5 k2 q2 (by simp at f4; lia) fun hp rows7 ep7 t hs ho D7=>?_)))
 ·intro q
  exact l6.old (q▸mem_fst l2.row)
 ·obtain ⟨S7,l7,L7⟩:=lI.setSt S6 (dict_nt _ _) hs ho t
  refine pL fun G0 hG0=>?_
  obtain ⟨W',S8,X8,e7,_⟩:=l7.number (ob:=.dict es) S7 e6 fun W' L m=>⟨rows7,ep7,m,(D7 _ L7).mono L⟩
  refine hG0 ?_
  refine wpAny_pure (g _ _ _ X8 S8 ?_)
  simp only [RV]
  exact ⟨Nat.lt_succ_self _,by rw [e7]⟩
end Mine
namespace Mine
variable {P:Pm} {C:Cx} {W W' W0:Wd} {h h' h0:Hp} {env:List V} {s:Shared} {d n:Nat} {cf:CF} {z:V}
theorem LI.other {I J:Addr} {o' oJ:Obj} (l:LI W0 h0 W h J oJ) (hJ:J≠I) (l':LI W0 h0 ⟨W.si,setRow I o' W.ns⟩ h I o'):LI W0 h0 ⟨W.si,setRow I o' W.ns⟩ h J oJ:=⟨l'.ext,setRow_ne hJ l.row,l.ni,l.old⟩
theorem LI.otherD {I J:Addr} {oJ:Obj} (l:LI W0 h0 W h J oJ) (hJ:J≠I) (X:Ext W0 ⟨W.si,dropRow I W.ns⟩ h0 h):LI W0 h0 ⟨W.si,dropRow I W.ns⟩ h J oJ:=⟨X,dropRow_mem hJ l.row,l.ni,l.old⟩
theorem LI.newer {I:Addr} {o:Obj} {a:Addr} {oa:Obj} (l:LI W0 h0 W h I o) (r:Rel P W h) (l':LI W h W' h' a oa) (r':Rel P W' h'):LI W0 h0 W' h' a oa:=by
 refine ⟨l.ext.trans l'.ext r,l'.row,l'.ni,fun m=>l'.old (l.ext.dom _ m)⟩
noncomputable def Cv (P:Pm) (W:Wd) (h:Hp) (Cc:Addr) (x:Str) (v:V):Prop:=∃ oC m u,(Cc,oC)∈W.ns∧LCg.NsObj oC m∧m x=some u∧RV P W h.n v u∧∀ j,j < h.n→W.si j≠Cc
theorem Cv.step {Cc:Addr} {x:Str} {v:V} (c:Cv P W h Cc x v) (X:Ext W W' h h') (r':Rel P W' h'):Cv P W' h' Cc x v:=by
 refine pL fun G0 hG0=>?_
 obtain ⟨oC,m,u,a,b,c,e,f⟩:=c
 refine hG0 ?_
 have hn:∀ j,j < h'.n→W'.si j≠Cc:=by
  intro j hj
  by_cases q:j < h.n
  ·rw [X.L.si j q]; exact f j q
  ·intro e
   exact X.new j (by omega) hj (e▸mem_fst a)
 exact ⟨oC,m,u,X.keep _ _ a fun i hi=>hn i (r'.wr i hi),b,c,e.mono X.L,hn⟩
noncomputable def EltS (P:Pm) (C:Cx) (scope:Scope) (cl:List (Str×Addr)) (x:Str) (ix:Nat) (f:List V→Hp→R) (e:Expr):Prop:=∀ W h env s Cc v y h' E Q,St P C W h env s→Cv P W h Cc x v→
 f (lset v env ix) h=.v y h'→Go P C W h env h' y Q→wpAny (Cx.M P) C.A (eval e (compEnvC scope cl Cc C.env)) Q E s
noncomputable def TstS (P:Pm) (C:Cx) (scope:Scope) (cl:List (Str×Addr)) (x:Str) (ix:Nat) (f:List V→Hp→R) (ifs:List Expr):Prop:=∀ W h env s Cc v b h' E Q,St P C W h env s→Cv P W h Cc x v→
 f (lset v env ix) h=.v (.bool b) h'→(∀ W' s',Ext W W' h h'→St P C W' h' env s'→Q b s')→
 wpAny (Cx.M P) C.A (forIn ifs true fun c r=>if r=true then do let ok ← PySem.isTrue c (compEnvC scope cl Cc C.env) (eval c (compEnvC scope cl Cc C.env)); pure (ForInStep.yield ok) else pure (ForInStep.yield r)) Q E s
theorem tst_nil {scope:Scope} {cl:List (Str×Addr)} {x:Str} {ix:Nat}:TstS P C scope cl x ix (fun env h=>cV (.bool true) cf z env h) []:=by
 intro W h env s Cc v b h' E Q S c e q
 cases e
 exact wpAny_tests_nil (q W s (Ext.refl W h) S)
theorem compLoop_s (elt cond:U) (x:Nat) (cf:CF) (z:V) (src:Sr) (env:List V) (k i:Nat) (h:Hp):compLoop elt cond x cf z src env (k + 1) i h=R.ofO (item h src i) fun q=>match q with
 | none=>.vs [] h
 | some v=>(cond cf z (lset v env x) h).bv fun c h=>R.ofO (Mine.isTrue c) fun b=>match b with
  | false=>compLoop elt cond x cf z src env k (Nat.succ i) h
  | true=>(elt cf z (lset v env x) h).bv fun y h=>(compLoop elt cond x cf z src env k (Nat.succ i) h).bvs fun ys h=>.vs (y::ys) h:=rfl
theorem ofO_vs {α:Type} {o:Option α} {k:α→R} {x:List V} (e:R.ofO o k=.vs x h'):∃ a,o=some a∧k a=.vs x h':=by
 induction o using Option.casesOn with
 | none=>exact rX e
 | some a=>exact ⟨a,rfl,e⟩
theorem isTrue_b {c:V} {b:Bool} (e:Mine.isTrue c=some b):c=.bool b:=by
 cases c with
 | bool _=>(obtain rfl:=Option.some.inj e); rfl
 | _=>exact oX e
structure CL (P:Pm) (C:Cx) (W0:Wd) (h0:Hp) (D:Nat→Obj→Prop) (I Cc Dd:Addr) (W:Wd) (h:Hp) (env:List V) (s:Shared) (i:Nat) (zs:List V):Prop where
 st:St P C W h env s
 it:∃ o,LI W0 h0 W h I o∧D i o
 fr:∃ o m,LI W0 h0 W h Cc o∧LCg.NsObj o m∧¬ Imm o
 acc:∃ its ep,LI W0 h0 W h Dd (listOf its ep)∧RVs P W h.n zs its.toList
theorem ns_ni {o:Obj} {m:Str→Option Value} (x:LCg.NsObj o m):¬ Imm o:=by
 obtain ⟨es,ep,hd,_⟩:=x
 exact ni_dict hd
theorem comp_loop (ok:C.Ok P d) {src:Sr} {D:Nat→Obj→Prop} {y:Value} (dr:Dr P W0 h0 src y D) {felt fcond:U} {x:Str} {ix:Nat} {px:Pos} {elt iter:Expr} {ifs:List Expr} {scope:Scope} {cl:List (Str×Addr)} {pos:Pos} {I Cc Dd:Addr} {R':Result→Shared→Prop}
  (hkind:scope.kind=.function) (hx:scope.names.lookup x=some .local) (El:EltS P C scope cl x ix (fun env h=>felt cf z env h) elt) (Ts:TstS P C scope cl x ix (fun env h=>fcond cf z env h) ifs)
  (dIC:I≠Cc) (dID:I≠Dd) (dCD:Cc≠Dd) {xs:List V} {hF:Hp} (hxs:xs.length < 100000)
  (fin:∀ W1 env1 s1 i,env1=env→CL P C W0 h0 D I Cc Dd W1 hF env1 s1 i xs→item hF src i=some none→∀ hp,Heap.ExtBut I s1.heap hp→R' (.ok .next) { s1 with heap:=hp })
  {k:Nat} (c0:CL P C W0 h0 D I Cc Dd W h env s 0 []) (e0:compLoop felt fcond ix cf z src env k 0 h=.vs xs hF) :
  codeAny (Cx.M P) C.A (.compLoop (.ListComp elt [⟨.Name x px,iter,ifs,0⟩] scope pos) 0 (.ref I) (.ref Dd) (compEnvC scope cl Cc C.env)) R' s:=by
 refine codeAny_compLoop_tests (fun k s'=>∃ W1 h1 i zs rest,CL P C W0 h0 D I Cc Dd W1 h1 env s' i zs∧compLoop felt fcond ix cf z src env k i h1=.vs rest hF∧xs=zs ++ rest) ?_ k ⟨W,h,0,[],xs,c0,e0,rfl⟩
 intro k s1 hI
 refine pL fun G0 hG0=>?_
 obtain ⟨W1,h1,i,zs,rest,c,e,hz⟩:=hI
 induction k using Nat.casesOn with
 | zero=>exact rX e
 | succ k=>
  rw [compLoop_s] at e
  obtain ⟨q,e1,e2⟩:=ofO_vs e
  obtain ⟨oI,lI,hDi⟩:=c.it
  obtain ⟨oC,m,lC,nC,iC⟩:=c.fr
  obtain ⟨its,ep,lD,rD⟩:=c.acc
  have S1:=c.st
  clear e
  induction q using Option.casesOn with
  | none=>
   have e2:=R.vs.inj e2
   rw [← e2.1,List.append_nil] at hz
   rw [← e2.2,hz] at fin
   refine hG0 ?_
   refine dr.stop C C.A W1 h1 env s1 _ _ _ oI i ok.handled S1 lI.ext lI.row hDi lI.ni e1 fun hp hs=>?_
   exact fin W1 env s1 i rfl c e1 hp hs
  | some v=>
   have e2:((fcond cf z (lset v env ix) h1).bv fun c h=>R.ofO (Mine.isTrue c) fun b=>match b with
    | false=>compLoop felt fcond ix cf z src env k (Nat.succ i) h
    | true=>(felt cf z (lset v env ix) h).bv fun y h=>(compLoop felt fcond ix cf z src env k (Nat.succ i) h).bvs fun ys h=>.vs (y::ys) h)=.vs rest hF:=e2
   obtain ⟨cv,h2,e3,e4⟩:=bv_vs e2
   obtain ⟨b,e5,e6⟩:=ofO_vs e4
   rw [isTrue_b e5] at e3
   clear e2 e4 e5
   refine hG0 ?_
   refine dr.next C C.A W1 h1 env s1 _ _ _ oI i v S1 lI.ext lI.row hDi lI.ni e1 fun hp o2 u tk hs ho hD2 ru=>?_
   clear hG0 G0
   refine pL fun G0 hG0=>?_
   obtain ⟨S2,lI2,L2⟩:=lI.setSt S1 (dr.nt _ _ hDi) hs ho tk
   have lC2:=lC.other (Ne.symm dIC) lI2
   have lD2:=lD.other (Ne.symm dID) lI2
   have zC:=S2.nw _ lC2.row
   obtain ⟨mm,F2,Em2⟩:=S2.fr
   refine hG0 ?_
   refine wpAny_assign_Name (wpAny_storeName_local (lookup_relabel_local hx) (nC.ns zC.1) (fun hp3 hn3 hs3=>?_) (by simp [compEnvC,relabel,hkind]))
   clear hG0 G0
   refine pL fun G0 hG0=>?_
   obtain ⟨oC3,gC3,nC3⟩:=LCg.ns_obj hn3
   obtain ⟨S3,lC3,L3⟩:=lC2.setSt S2 iC hs3 gC3 (tk + 1)
   have lI3:=lI2.other dIC lC3
   have lD3:=lD2.other (Ne.symm dCD) lC3
   have cv3:Cv P _ h1 Cc x v:=⟨oC3,_,u,lC3.row,nC3,by simp,(ru.mono L2).mono L3,lC3.ni⟩
   refine hG0 ?_
   refine Ts _ h1 env _ Cc v b h2 _ _ S3 cv3 e3 fun W4 s4 X4 S4=>?_
   have lI4:=lI3.step S3.rel X4 S4.rel
   have lC4:=lC3.step S3.rel X4 S4.rel
   have lD4:=lD3.step S3.rel X4 S4.rel
   have rD4:=((rD.mono L2).mono L3).mono X4.L
   induction b using Bool.casesOn with
   | false=>
    rw [if_neg (by decide)]
    exact ⟨k,Nat.lt_succ_self _,W4,h2,i + 1,zs,rest,⟨S4,⟨o2,lI4,hD2⟩,⟨oC3,_,lC4,nC3,ns_ni nC3⟩,⟨its,ep,lD4,rD4⟩⟩,e6,hz⟩
   | true=>
    rw [if_pos rfl]
    clear hG0 G0
    refine pL fun G0 hG0=>?_
    have e6:((felt cf z (lset v env ix) h2).bv fun y h=>(compLoop felt fcond ix cf z src env k (Nat.succ i) h).bvs fun ys h=>.vs (y::ys) h)=.vs rest hF:=e6
    obtain ⟨yv,h3,e7,e8⟩:=bv_vs e6
    obtain ⟨ys,h4,e9,e10⟩:=bvs_vs e8
    have e10:=R.vs.inj e10
    rw [e10.2] at e9
    rw [← e10.1] at hz
    have hzl:zs.length < 100000:=by rw [hz,List.length_append] at hxs; exact Nat.lt_of_le_of_lt (Nat.le_add_right _ _) hxs
    refine hG0 ?_
    refine El W4 h2 env s4 Cc v yv h3 _ _ S4 (cv3.step X4 S4.rel) e7 fun W5 s5 w X5 S5 r5=>?_
    have lI5:=lI4.step S4.rel X5 S5.rel
    have lC5:=lC4.step S4.rel X5 S5.rel
    have lD5:=lD4.step S4.rel X5 S5.rel
    have rD5:=rD4.mono X5.L
    have hsz:its.size < 100000:=by rw [← Array.length_toList,← rD5.len]; exact hzl
    refine append_at (hsz:=by rw [sizeLine_eq]; omega) (S5.nw.get lD5.row) fun hp6 hs6 hg6=>?_
    clear hG0 G0
    refine pL fun G0 hG0=>?_
    obtain ⟨S6,lD6,L6⟩:=lD5.setSt S5 (list_nt _ _) hs6 hg6 s5.toks
    refine hG0 ?_
    refine ⟨k,Nat.lt_succ_self _,_,h3,i + 1,zs ++ [yv],ys,⟨S6,⟨o2,lI5.other dID lD6,hD2⟩,⟨oC3,_,lC5.other dCD lD6,nC3,ns_ni nC3⟩,⟨its.push w,ep + 1,lD6,?_⟩⟩,e9,by rw [hz]; simp⟩
    rw [Array.toList_push]
    exact (rD5.mono L6).app (.cons (r5.mono L6) .nil)
end Mine
namespace Mine
variable {P:Pm} {C:Cx} {W W' W0:Wd} {h h' h0:Hp} {env:List V} {s:Shared} {d n:Nat} {cf:CF} {z:V}
theorem mkL_ro' {a:Addr} {xs:List V} {its:Array Value} {ep:Nat} (m:(a,listOf its ep)∈W.ns) (r:RVs P W n xs its.toList) (hl:xs.length < 100000):RO P W n (mkL xs) a:=by
 have e:its=its.toList.toArray:=by simp
 rw [e] at m
 exact mkL_ro m r hl
theorem comp_run (ok:C.Ok P d) {src:Sr} {D:Nat→Obj→Prop} {y:Value} {W1:Wd} {h1:Hp} {s1:Shared} (S1:St P C W1 h1 env s1) (dr:Dr P W1 h1 src y D) {felt fcond:U} {x:Str} {ix:Nat} {px:Pos} {elt iter:Expr} {ifs:List Expr} {scope:Scope} {cl:List (Str×Addr)} {pos:Pos} {E:Value→Shared→Prop}
  (hcell:∀ y∈scope.names,y.2≠.cell) (hkind:scope.kind=.function) (hx:scope.names.lookup x=some .local) (El:EltS P C scope cl x ix (fun env h=>felt cf z env h) elt) (Ts:TstS P C scope cl x ix (fun env h=>fcond cf z env h) ifs)
  {xs:List V} {hF:Hp} (hxs:xs.length < 100000) {RR:Value→Addr→Result→Shared→Prop}
  (e0:compLoop felt fcond ix cf z src env 400 0 h1=.vs xs hF)
  (fin:∀ W2 s2 Cc Dd oC m its ep,St P C W2 hF env s2→LI W1 h1 W2 hF Cc oC→LCg.NsObj oC m→LI W1 h1 W2 hF Dd (listOf its ep)→RVs P W2 hF.n xs its.toList→Cc≠Dd→RR (.ref Dd) Cc (.ok .next) s2) :
  wpAny (Cx.M P) C.A (pyIter y) (fun it s₂=>wpAny (Cx.M P) C.A (newList []) (fun acc s₃=>wpAny (Cx.M P) C.A (newFunctionEnv scope C.env.globals cl [] C.env.qual none .none (some C.env)) (fun cenv s₄=>
   codeAny (Cx.M P) C.A (.compStart (.ListComp elt [⟨.Name x px,iter,ifs,0⟩] scope pos) 0 it acc { cenv with scope:=relabel scope C.env }) (RR acc cenv.locals) s₄) E s₃) E s₂) E s1:=by
 refine dr.start C C.A env s1 E _ S1 fun ob hD hf=>?_
 obtain ⟨S2,lI2⟩:=rawRow S1 ob hf
 obtain ⟨S3,lD3⟩:=rawRow S2 (listOf #[] 0) rfl
 have lI3:=lI2.step S2.rel lD3.ext S3.rel
 have lD3':=lI2.newer S2.rel lD3 S3.rel
 refine wpAny_newObj_type (wpAny_newFunctionEnv hcell (by intro y hy; simp at hy) (fun hp hns hsb=>?_) hkind)
 refine pL fun G0 hG0=>?_
 obtain ⟨S4,lC4⟩:=rawRow S3 (dictOf [] 0) rfl
 obtain ⟨oC,gC,nC⟩:=LCg.ns_obj hns
 have lI4:=lI3.step S3.rel lC4.ext S4.rel
 have lD4:=lD3'.step S3.rel lC4.ext S4.rel
 have lC4':=lI3.newer S3.rel lC4 S4.rel
 obtain ⟨S5,lC5,L5⟩:=lC4'.setSt S4 (dict_nt _ _) hsb gC (s1.toks + 0)
 refine hG0 ?_
 have dID:s1.heap.objs.size≠(s1.heap.push ob).objs.size:=by rw [Heap.size_push]; exact Nat.ne_of_lt (Nat.lt_succ_self _)
 have dIC:s1.heap.objs.size≠((s1.heap.push ob).push (listOf #[] 0)).objs.size:=by rw [Heap.size_push,Heap.size_push]; exact Nat.ne_of_lt (Nat.lt_succ_of_lt (Nat.lt_succ_self _))
 have dDC:(s1.heap.push ob).objs.size≠((s1.heap.push ob).push (listOf #[] 0)).objs.size:=by rw [Heap.size_push (s1.heap.push ob)]; exact Nat.ne_of_lt (Nat.lt_succ_self _)
 have c0:CL P C W1 h1 D _ _ _ _ h1 env _ 0 []:=⟨S5,⟨ob,lI4.other dIC lC5,hD⟩,⟨oC,_,lC5,nC,ns_ni nC⟩,⟨#[],0,lD4.other dDC lC5,.nil⟩⟩
 have loop:∀ W5 s3,CL P C W1 h1 D s1.heap.objs.size ((s1.heap.push ob).push (listOf #[] 0)).objs.size (s1.heap.push ob).objs.size W5 h1 env s3 0 []→codeAny (Cx.M P) C.A (.compLoop (.ListComp elt [⟨.Name x px,iter,ifs,0⟩] scope pos) 0 (.ref s1.heap.objs.size) (.ref (s1.heap.push ob).objs.size) (compEnvC scope cl ((s1.heap.push ob).push (listOf #[] 0)).objs.size C.env)) (RR (.ref (s1.heap.push ob).objs.size) ((s1.heap.push ob).push (listOf #[] 0)).objs.size) s3:=by
  intro W5 s3 c0
  refine comp_loop ok dr hkind hx El Ts dIC dID (Ne.symm dDC) hxs (fun W6 env6 s6 i he c hi hp6 hs6=>?_) c0 e0
  refine pL fun G0 hG0=>?_
  subst he
  obtain ⟨oI,lI6,hDi⟩:=c.it
  obtain ⟨oC6,m6,lC6,nC6,iC6⟩:=c.fr
  obtain ⟨its,ep,lD6,rD6⟩:=c.acc
  obtain ⟨S7,X7⟩:=lI6.dropSt c.st S1.rel (dr.nt _ _ hDi) hs6 s6.toks
  refine hG0 ?_
  exact fin _ _ _ _ _ _ its ep S7 (lC6.otherD (Ne.symm dIC) X7) nC6 (lD6.otherD (Ne.symm dID) X7) (rD6.mono ((lI6.drop c.st.rel S1.rel (dr.nt _ _ hDi)).2.2)) (Ne.symm dDC)
 refine codeAny_compStart_list (loop _ _ c0) ?_
 obtain ⟨oI,lI6,hDi⟩:=c0.it
 exact dr.self C.A _ _ _ _ oI 0 hDi (c0.st.nw _ lI6.row).1 (loop _ _ c0)
theorem rule_comp (ok:C.Ok P d) {it felt fcond:U} {x:Str} {ix:Nat} {px:Pos} {elt iter:Expr} {ifs:List Expr} {scope:Scope} {cl:List (Str×Addr)} {pos:Pos}
  (hs:∀ x,foldedSetIterable iter C.env x=pure x) (hclos:closureFor scope C.env=pure cl) (hcell:∀ y∈scope.names,y.2≠.cell) (hkind:scope.kind=.function) (hnames:∀ y∈scope.names,y.2=.local→scope.names.lookup y.1=some .local) (hx:scope.names.lookup x=some .local)
  (Si:SndE P C (fun env h=>it cf z env h) iter) (El:EltS P C scope cl x ix (fun env h=>felt cf z env h) elt) (Ts:TstS P C scope cl x ix (fun env h=>fcond cf z env h) ifs) :
  SndE P C (fun env h=>cComp felt ix it fcond cf z env h) (.ListComp elt [⟨.Name x px,iter,ifs,0⟩] scope pos):=by
 intro W h env s v h' Q E S e g
 refine pL fun G0 hG0=>?_
 obtain ⟨sv,h1,e1,e2⟩:=bv_v e
 obtain ⟨src,e3,e4⟩:=ofO_v e2
 obtain ⟨xs,hF,e5,e6⟩:=bvs_v e4
 obtain ⟨q1,q2,rfl,rfl⟩:=newL_v e6
 refine hG0 ?_
 rw [eval_ListComp]
 refine wpAny_comprehension_free (use:=none) rfl hs hclos hkind hnames (Si W h env s sv h1 _ E S e1 fun W1 s1 y X1 S1 r1=>?_)
 obtain ⟨D,dr⟩:=src_dr S1 r1 e3
 refine comp_run ok S1 dr hcell hkind hx El Ts q1 e5 fun W2 s2 Cc Dd oC m its ep S2 lC nC lD rD dCD=>?_
 refine ⟨m,nC.ns (S2.nw _ lC.row).1,fun hp hsb=>?_⟩
 refine pL fun G0 hG0=>?_
 obtain ⟨S3,X3⟩:=lC.dropSt S2 S1.rel (ns_ni nC) hsb.extBut s2.toks
 have lD3:=lD.otherD (Ne.symm dCD) X3
 have L3:=(lC.drop S2.rel S1.rel (ns_ni nC)).2.2
 obtain ⟨W4,S4,X4,e7,_⟩:=lD3.number (ob:=mkL xs) S3 q2 fun W' L m=>mkL_ro' m ((rD.mono L3).mono L) q1
 refine hG0 ?_
 refine (g.step X1 S1.rel) _ _ _ X4 S4 ?_
 simp only [RV]
 exact ⟨Nat.lt_succ_self _,by rw [e7]⟩
theorem rule_asgnC (ok:C.Ok P d) {it felt fcond:U} {x y:Str} {ix iy:Nat} {px py:Pos} {elt iter:Expr} {ifs:List Expr} {scope:Scope} {cl:List (Str×Addr)} {pos spos:Pos}
  (hsw:swapsWith (.ListComp elt [⟨.Name x px,iter,ifs,0⟩] scope pos) (some (.Name y py)) spos.line C.env=pure true) (hy:C.names[iy]?=some y) (hcy:C.cl.lookup y=none)
  (hs:∀ x,foldedSetIterable iter C.env x=pure x) (hclos:closureFor scope C.env=pure cl) (hcell:∀ y∈scope.names,y.2≠.cell) (hkind:scope.kind=.function) (hnames:∀ y∈scope.names,y.2=.local→scope.names.lookup y.1=some .local) (hx:scope.names.lookup x=some .local)
  (Si:SndE P C (fun env h=>it cf z env h) iter) (El:EltS P C scope cl x ix (fun env h=>felt cf z env h) elt) (Ts:TstS P C scope cl x ix (fun env h=>fcond cf z env h) ifs) :
  SndS P C (fun env h=>cAsgn (cName iy) (cComp felt ix it fcond) cf z env h) (.Assign [.Name y py] (.ListComp elt [⟨.Name x px,iter,ifs,0⟩] scope pos) spos):=by
 intro W h env s Q E S o
 refine pL fun G0 hG0=>?_
 obtain ⟨v,hv,ev,o1⟩:=Out.bv o
 obtain ⟨sv,h1,e1,e2⟩:=bv_v ev
 obtain ⟨src,e3,e4⟩:=ofO_v e2
 obtain ⟨xs,hF,e5,e6⟩:=bvs_v e4
 obtain ⟨q1,q2,rfl,rfl⟩:=newL_v e6
 refine hG0 ?_
 rw [exec_Assign_Name_used _ _ _ _ hsw]
 refine wpAny_bind (wpAny_standAt (wpAny_bind ?_))
 show wpAny _ C.A (do let _ ← comprehension (.ListComp elt [⟨.Name x px,iter,ifs,0⟩] scope pos) scope C.env _ (newList []) false (eval iter C.env) (some (assign (.Name y py) C.env))) _ _ s
 refine wpAny_bind (wpAny_mono (wpAny_comprehension_free (use:=some (assign (.Name y py) C.env)) (Q:=fun _ s'=>Q .next s') rfl hs hclos hkind hnames
  (Si W h env s sv h1 _ E S e1 fun W1 s1 y' X1 S1 r1=>?_)) (fun _ s' hq=>wpAny_pure (wpAny_pure hq)) fun _ _ e=>e)
 obtain ⟨D,dr⟩:=src_dr S1 r1 e3
 refine comp_run ok S1 dr hcell hkind hx El Ts q1 e5 fun W2 s2 Cc Dd oC m its ep S2 lC nC lD rD dCD=>?_
 refine pL fun G0 hG0=>?_
 obtain ⟨W4,S4,X4,e7,e8,e9,L4⟩:=lD.number (ob:=mkL xs) S2 q2 fun W' L m=>mkL_ro' m (rD.mono L) q1
 refine hG0 ?_
 have lC4:LI W1 h1 W4 (hF.add (mkL xs)) Cc oC:=by
  refine ⟨X4,by rw [e8]; exact lC.row,fun j hj=>?_,lC.old⟩
  rcases Nat.lt_succ_iff_lt_or_eq.mp hj with hj | rfl
  ·rw [e9 j hj]; exact lC.ni j hj
  ·rw [e7]; exact Ne.symm dCD
 refine assign_Name (store_ok ok hy hcy S4 (v:=.ref hF.n) ?_ fun s5 S5=>?_)
 ·simp only [RV]
  exact ⟨Nat.lt_succ_self _,by rw [e7]⟩
 ·refine ⟨m,nC.ns (S5.nw _ lC4.row).1,fun hp hsb=>?_⟩
  obtain ⟨S6,X6⟩:=lC4.dropSt S5 S1.rel (ns_ni nC) hsb.extBut s5.toks
  exact o1 _ _ (X1.trans X6 S1.rel) S6
end Mine
namespace Mine
variable {P:Pm} {C:Cx} {W W' W0:Wd} {h h' h0:Hp} {env:List V} {s:Shared} {d n:Nat} {cf:CF} {z:V}
theorem lset_get {α:Type} (v:α):∀ (l:List α) (i j:Nat),(lset v l i)[j]?=if i=j∧i < l.length then some v else l[j]?
 | [],i,j=>by show ([]:List α)[j]?=_; rw [if_neg (by simp)]
 | a::l,0,0=>rfl
 | a::l,0,j + 1=>by show l[j]?=_; rw [if_neg (by lia)]; rfl
 | a::l,i + 1,0=>by show some a=_; rw [if_neg (by lia)]; rfl
 | a::l,i + 1,j + 1=>by
  show (lset v l i)[j]?=_
  rw [lset_get v l i j]
  simp
section
variable {scope:Scope} {cl:List (Str×Addr)} {x:Str} {ix:Nat}
noncomputable def EltSs (P:Pm) (C:Cx) (scope:Scope) (cl:List (Str×Addr)) (x:Str) (ix:Nat) (f:List V→Hp→R) (es:List Expr):Prop:=∀ W h env s Cc v vs h' (pos:Pos) Q E,St P C W h env s→Cv P W h Cc x v→
 f (lset v env ix) h=.vs vs h'→(∀ W' s' ys,Ext W W' h h'→St P C W' h' env s'→RVs P W' h'.n vs ys→Q ys s')→wpAny (Cx.M P) C.A (spliced (backTo pos (starEach es (compEnvC scope cl Cc C.env)))) Q E s
theorem elt_name {pos:Pos} (hk:scope.kind=.function) (hx:scope.names.lookup x=some .local) (hd:(x == ("__debug__":Str))=false):EltS P C scope cl x ix (fun env h=>cLoc ix cf z env h) (.Name x pos):=by
 intro W h env s Cc v y h' E Q S c e g
 refine pL fun G0 hG0=>?_
 obtain ⟨w,e1,e2,e3⟩:=loc_v e
 rw [lset_get] at e1
 cases e3
 obtain ⟨oC,m,u,a,b,hu,rv,f⟩:=c
 refine hG0 ?_
 have hw:y=v:=by
  by_cases q:ix < env.length
  ·rw [if_pos ⟨rfl,q⟩] at e1; (obtain rfl:=Option.some.inj e1); rfl
  ·rw [if_neg (by lia),List.getElem?_eq_none (by lia)] at e1; exact oX e1
 cases hw
 exact wpAny_Name (wpAny_loadName_local (by simp [compEnvC,relabel,hk]) (lookup_relabel_local hx) (b.ns (S.nw _ a).1) hu (g.now S rv)) hd
theorem elt_int {i:Int} {k:Nat} {pos:Pos}:EltS P C scope cl x ix (fun env h=>cV (.int i) cf z env h) (.Constant (.int i) k pos):=by
 intro W h env s Cc v y h' E Q S c e g
 refine pL fun G0 hG0=>?_
 (obtain ⟨rfl,rfl⟩:=R.v.inj e)
 refine hG0 ?_
 exact wpAny_Constant_int (g.here S _ (rvMk _))
theorem elt_str {i k:Nat} {pos:Pos}:EltS P C scope cl x ix (fun env h=>cV (.str i) cf z env h) (.Constant (.str (P.nm i)) k pos):=by
 intro W h env s Cc v y h' E Q S c e g
 refine pL fun G0 hG0=>?_
 (obtain ⟨rfl,rfl⟩:=R.v.inj e)
 refine hG0 ?_
 exact wpAny_Constant_str (g.here S _ (by simp only [RV]; exact ⟨_,rfl⟩))
theorem elt_none {k:Nat} {pos:Pos}:EltS P C scope cl x ix (fun env h=>cV .none cf z env h) (.Constant .none k pos):=by
 intro W h env s Cc v y h' E Q S c e g
 refine pL fun G0 hG0=>?_
 (obtain ⟨rfl,rfl⟩:=R.v.inj e)
 refine hG0 ?_
 exact PyProof.Rows.Constant_none (g.now S (by simp only [RV]))
theorem elt_bin (ok:C.Ok P d) {op:Nat} (hop:op≤5) {a b:U} {ea eb:Expr} {pos:Pos} (Sa:EltS P C scope cl x ix (fun env h=>a cf z env h) ea) (Sb:EltS P C scope cl x ix (fun env h=>b cf z env h) eb) :
  EltS P C scope cl x ix (fun env h=>cBin op a b cf z env h) (.BinOp ea (opOf op) eb pos):=by
 intro W h env s Cc v y h' E Q S c e g
 refine pL fun G0 hG0=>?_
 obtain ⟨xa,h1,e1,e2⟩:=bv_v e
 obtain ⟨xb,h2,e3,e4⟩:=bv_v e2
 refine hG0 ?_
 refine wpAny_BinOp (Sa W h env s Cc v xa h1 E _ S c e1 fun W1 s1 u X1 S1 r1=>?_)
 refine Sb W1 h1 env s1 Cc v xb h2 E _ S1 (c.step X1 S1.rel) e3 fun W2 s2 w X2 S2 r2=>?_
 exact bin_ok ok.pok S2 hop (r1.mono X2.L) r2 e4 (g.step (X1.trans X2 S1.rel) S2.rel)
theorem elt_nil:EltSs P C scope cl x ix (fun env h=>cNil cf z env h) []:=by
 intro W h env s Cc v vs h' pos Q E S c e g
 refine pL fun G0 hG0=>?_
 (obtain ⟨rfl,rfl⟩:=R.vs.inj e)
 refine hG0 ?_
 exact args_nil (g W s [] (Ext.refl W h) S .nil)
theorem elt_cons {a r:U} {e:Expr} {es:List Expr} (he:∀ env,starEach (e::es) env=(false,eval e env)::starEach es env) (Sa:EltS P C scope cl x ix (fun env h=>a cf z env h) e) (Sr:EltSs P C scope cl x ix (fun env h=>r cf z env h) es) :
  EltSs P C scope cl x ix (fun env h=>cCons a r cf z env h) (e::es):=by
 intro W h env s Cc v vs h' pos Q E S c e1 g
 refine pL fun G0 hG0=>?_
 obtain ⟨xa,h1,e2,e3⟩:=bv_vs e1
 obtain ⟨ys,h2,e4,e5⟩:=bvs_vs e3
 (obtain ⟨rfl,rfl⟩:=R.vs.inj e5)
 refine hG0 ?_
 refine args_cons (Sa W h env s Cc v xa h1 E _ S c e2 fun W1 s1 u X1 S1 r1=>?_) (he _)
 exact Sr W1 h1 env s1 Cc v ys _ pos _ E S1 (c.step X1 S1.rel) e4 fun W2 s2 us X2 S2 r2=>g W2 s2 _ (X1.trans X2 S1.rel) S2 (.cons (r1.mono X2.L) r2)
theorem elt_tup {a:U} {es:List Expr} {k:Nat} {pos:Pos} (Sa:EltSs P C scope cl x ix (fun env h=>a cf z env h) es):EltS P C scope cl x ix (fun env h=>cTup a cf z env h) (.Tuple es k pos):=by
 intro W h env s Cc v y h' E Q S c e g
 refine pL fun G0 hG0=>?_
 obtain ⟨xs,h1,e1,e2⟩:=bvs_v e
 refine hG0 ?_
 exact Tuple_ (Sa W h env s Cc v xs h1 pos _ E S c e1 fun W1 s1 ys X1 S1 r1=>newTup S1 r1 e2 (g.step X1 S1.rel))
theorem elt_sub (ok:C.Ok P d) {a b:U} {ea eb:Expr} {pos:Pos} (hs:∀ o i,subscripted eb false o i=operate [o,i] (getItem o i)) (Sa:EltS P C scope cl x ix (fun env h=>a cf z env h) ea) (Sb:EltS P C scope cl x ix (fun env h=>b cf z env h) eb) :
  EltS P C scope cl x ix (fun env h=>cSub a b cf z env h) (.Subscript ea eb pos):=by
 intro W h env s Cc v y h' E Q S c e g
 refine pL fun G0 hG0=>?_
 obtain ⟨xa,h1,e1,e2⟩:=bv_v e
 obtain ⟨i,h2,e3,e4⟩:=bv_v e2
 refine hG0 ?_
 refine Subscript_ (Sa W h env s Cc v xa h1 E _ S c e1 fun W1 s1 u X1 S1 r1=>Sb W1 h1 env s1 Cc v i h2 E _ S1 (c.step X1 S1.rel) e3 fun W2 s2 w X2 S2 r2=>?_)
 refine pL fun G0 hG0=>?_
 have hu:C.A.units + 120 < cLine:=by have:=ok.units; show C.A.units + 120 < 9900; lia
 obtain ⟨hg,T,id,hT,hl⟩:=subV_ok (E:=E) ok.pok S2 hu (r1.mono X2.L) r2 e4 (g.step (X1.trans X2 S1.rel) S2.rel)
 refine hG0 ?_
 exact tail_any hT hl hg (hs _ _)
theorem elt_free {y:Str} {iy:Nat} {pos:Pos} {c:Addr} (hne:ix≠iy) (hy:C.names[iy]?=some y) (hcl:cl.lookup y=some c) (hCl:C.cl.lookup y=some c) (hk:scope.kind=.function) (hf:scope.names.lookup y=some .free) (hd:(y == ("__debug__":Str))=false)
  (hr:(relabel scope C.env).names.lookup y=some .cell):EltS P C scope cl x ix (fun env h=>cLoc iy cf z env h) (.Name y pos):=by
 intro W h env s Cc v yv h' E Q S _ e g
 refine pL fun G0 hG0=>?_
 obtain ⟨w,e1,e2,e3⟩:=loc_v e
 rw [lset_get,if_neg (by lia)] at e1
 (obtain ⟨rfl,rfl⟩:=R.v.inj e3)
 obtain ⟨m,F,Em⟩:=S.fr
 obtain ⟨u,u1,u2⟩:=Em iy y _ hy e1 e2
 refine hG0 ?_
 rcases u1 with ⟨c1,_⟩ | ⟨c',o,c1,c2,c3⟩
 ·rw [hCl] at c1; exact oX c1
 ·rw [hCl] at c1
  refine pL fun G0 hG0=>?_
  (obtain rfl:=Option.some.inj c1)
  refine hG0 ?_
  exact wpAny_Name (wpAny_loadName_cell (by simp [compEnvC,relabel,hk]) hr hcl ⟨o,S.nw.get c2,c3⟩ (g.now S u2)) hd
theorem elt_attr (ok:C.Ok P d) (CA:ClsAll P) {a:U} {k:Nat} {ea:Expr} {pos:Pos} (he:∀ env,eval (.Attribute ea (P.nm k) pos) env=(do
   let o ← eval ea env
   standAt pos.atName
   let r ← holding [o] (getAttr o (P.nm k) true)
   letTemporaryGo ea o r
   pure r)) (Sa:EltS P C scope cl x ix (fun env h=>a cf z env h) ea):EltS P C scope cl x ix (fun env h=>cAttr a k cf z env h) (.Attribute ea (P.nm k) pos):=by
 intro W h env s Cc v y h' E Q S c e g
 refine pL fun G0 hG0=>?_
 obtain ⟨xa,h1,e1,e2⟩:=bv_v e
 refine hG0 ?_
 exact Attribute_any_ (Sa W h env s Cc v xa h1 E _ S c e1 fun W1 s1 y X1 S1 r1=>attr_ok ok CA S1 r1 e2 (g.step X1 S1.rel)) (he _)
theorem tst_cmp (ok:C.Ok P d) (G:GOk P P.K) {op:Nat} (hop:op≤9) {a b:U} {ea eb:Expr} {pos:Pos} (hm:behindInMarks (cOf op) eb=false) (Sa:EltS P C scope cl x ix (fun env h=>a cf z env h) ea) (Sb:EltS P C scope cl x ix (fun env h=>b cf z env h) eb) :
  TstS P C scope cl x ix (fun env h=>cCmp op a b cf z env h) [.Compare ea [cOf op] [eb] pos]:=by
 intro W h env s Cc v c h' E Q S cv e g
 refine pL fun G0 hG0=>?_
 have hu:C.A.units + 120 < cLine:=by have:=ok.units; show C.A.units + 120 < 9900; lia
 obtain ⟨xa,h1,e1,e2⟩:=bv_v e
 obtain ⟨xb,h2,e3,e4⟩:=bv_v e2
 obtain ⟨r,e5,e6,rfl⟩:=ofB_v e4
 cases e6
 refine hG0 ?_
 refine wpAny_tests_one (wpAny_isTrue_Compare1 (Sa W h env s Cc v xa h1 E _ S cv e1 fun W1 s1 u X1 S1 r1=>?_) hm)
 refine Sb W1 h1 env s1 Cc v xb _ E _ S1 (cv.step X1 S1.rel) e3 fun W2 s2 w X2 S2 r2=>?_
 obtain ⟨m,F,_⟩:=S2.fr
 exact cmp_ok ok.pok S2 (in_keeps ok.x F.keep) G hu (r1.mono X2.L) r2 hop e5 _ fun t=>wpAny_truthy_bool (g W2 _ (X1.trans X2 S1.rel) (S2.tok t))
end
end Mine
namespace Mine
variable {P:Pm} {C:Cx} {W W' W0:Wd} {h h' h0:Hp} {env:List V} {s:Shared} {d n:Nat} {cf:CF} {z:V}
section
variable {A:Around} {E:Value→Shared→Prop} {Q:Value→Shared→Prop}
theorem len_ok (S:St P C W h env s) {x v:V} {y:Value} (rx:RV P W h.n x y) (e:lenV h x=.v v h') (g:Go P C W h env h' v Q):wpAny (Cx.M P) A (call (.builtin "len") [y]) Q E s:=by
 induction x using V.casesOn with
 | tn=>
  refine pL fun G0 hG0=>?_
  (obtain ⟨rfl,rfl⟩:=R.v.inj e)
  obtain ⟨b,ys,rfl,m,rs,_⟩:=tupL_rv (v:=.tn) (xs:=[]) rfl rx
  cases rs
  refine hG0 ?_
  exact PyProof.Rows.len_tuple (tupIs S m) (by decide) (g.here S _ (rvMk _))
 | tc a r=>
  refine pL fun G0 hG0=>?_
  obtain ⟨xs,e1,e2⟩:=ofO_v (o:=tupL (.tc a r)) e
  obtain ⟨q,e3⟩:=ifT_v e2
  (obtain ⟨rfl,rfl⟩:=R.v.inj e3)
  rw [blt_eq,decide_eq_true_iff] at q
  obtain ⟨b,ys,rfl,m,rs,_⟩:=tupL_rv e1 rx
  refine hG0 ?_
  have hl:=rs.len
  refine PyProof.Rows.len_tuple (tupIs S m) (by rw [List.size_toArray]; lia) (g.here S _ ?_)
  rw [List.size_toArray,← hl]
  exact rvMk _
 | ref a=>
  refine pL fun G0 hG0=>?_
  obtain ⟨o,ea,e1⟩:=ofO_v (o:=h.t.get a) e
  obtain ⟨_,rfl⟩:=rv_ref rx
  refine hG0 ?_
  induction o using O.casesOn with
  | list k t=>
   refine pL fun G0 hG0=>?_
   (obtain ⟨rfl,rfl⟩:=R.v.inj e1)
   obtain ⟨_,its,ep,m,hs,hle,_⟩:=list_at S ea
   refine hG0 ?_
   refine PyProof.Rows.len_list (isList_at S m) (by lia) (g.here S _ ?_)
   rw [hs]
   exact rvMk _
  | _=>exact rX e1
 | _=>exact rX e
theorem rng_new (S:St P C W h env s) {lo hi:Int} {t u w:Tok} {v:V} {tk:Nat} (e:R.new h (.rng lo hi)=.v v h') (g:Go P C W h env h' v Q):Q (.ref s.heap.objs.size) { s with heap:=s.heap.push (rngO (.int lo t) (.int hi u) w),toks:=tk }:=by
 refine pL fun G0 hG0=>?_
 obtain ⟨e1,rfl,rfl⟩:=new_v e
 obtain ⟨m,F,Em⟩:=S.fr
 have f:∀ p∈W.ns,p.1 < s.heap.objs.size:=fun p hp=>Heap.lt_size (S.nw p hp).1
 obtain ⟨S',X⟩:=S.add (ob:=.rng lo hi) (F.push _) Em (News.push F S.nw (rngO (.int lo t) (.int hi u) w)) f e1 ⟨t,u,w,.head _⟩ tk
 refine hG0 ?_
 refine g _ _ _ X S' ?_
 simp only [RV]
 exact ⟨Nat.lt_succ_self _,by rw [add_si]⟩
theorem rng_ok (S:St P C W h env s) {xs:List V} {v:V} {ys:List Value} (rx:RVs P W h.n xs ys) (e:rngV h xs=.v v h') (g:Go P C W h env h' v Q):wpAny (Cx.M P) A (call (.type "range") ys) Q E s:=by
 cases rx with
 | nil=>exact rX e
 | @cons a _ xs' _ r1 rs=>
  cases rs with
  | nil=>
   induction a using V.casesOn with
   | int hi=>
    obtain ⟨t,rfl⟩:=rvI r1
    exact call_range_1 (rng_new S e g)
   | _=>exact rX e
  | @cons b _ xs'' _ r2 rs=>
   cases rs with
   | nil=>
    induction a using V.casesOn with
    | int lo=>
     induction b using V.casesOn with
     | int hi=>
      refine pL fun G0 hG0=>?_
      obtain ⟨t,rfl⟩:=rvI r1
      obtain ⟨u,rfl⟩:=rvI r2
      refine hG0 ?_
      exact call_range_2 (rng_new S e g)
     | _=>exact rX e
    | _=>exact rX e
   | cons _ _=>exact rX e
theorem tuple_ok (S:St P C W h env s) {x v:V} {y:Value} (rx:RV P W h.n x y) (e:tupV h x=.v v h') (g:Go P C W h env h' v Q):wpAny (Cx.M P) A (call (.type "tuple") [y]) Q E s:=by
 induction x using V.casesOn with
 | tn=>
  refine pL fun G0 hG0=>?_
  (obtain ⟨rfl,rfl⟩:=R.v.inj e)
  obtain ⟨b,ys,rfl,m,rs,_⟩:=tupL_rv (v:=.tn) (xs:=[]) rfl rx
  refine hG0 ?_
  exact call_tuple_tup (tupIs S m) (g.now S rx)
 | tc a r=>
  refine pL fun G0 hG0=>?_
  obtain ⟨xs,e1,e2⟩:=ofO_v (o:=tupL (.tc a r)) e
  (obtain ⟨rfl,rfl⟩:=R.v.inj e2)
  obtain ⟨b,ys,rfl,m,rs,_⟩:=tupL_rv e1 rx
  refine hG0 ?_
  exact call_tuple_tup (tupIs S m) (g.now S rx)
 | ref a=>
  refine pL fun G0 hG0=>?_
  obtain ⟨o,ea,e1⟩:=ofO_v (o:=h.t.get a) e
  obtain ⟨_,rfl⟩:=rv_ref rx
  refine hG0 ?_
  induction o using O.casesOn with
  | list k t=>
   refine pL fun G0 hG0=>?_
   obtain ⟨xs,e2,e3⟩:=ofO_v (o:=toL t k) e1
   obtain ⟨_,its,ep,m,hs,hle,hget⟩:=list_at S ea
   refine hG0 ?_
   have r:=list_rvs e2 hs hget
   refine call_tuple_list (isList_at S m) (fun hp hk=>?_) (by rw [sizeLine_eq]; lia)
   obtain ⟨mm,F,Em⟩:=S.fr
   have S1:St P C W h env { s with heap:=hp }:=⟨S.rel,⟨mm,F.keeps hk,Em⟩,S.nw.grown hk,S.gens,S.os⟩
   have q:=tupPush S1 r e3 g
   have e5:(tupO its.toList:Obj)={ cls:=.type "tuple",data:=.seq its }:=by
    show ({ cls:=.type "tuple",data:=.seq its.toList.toArray }:Obj)=_
    rw [Array.toArray_toList]
   rw [e5] at q
   exact q
  | _=>exact rX e1
 | _=>exact rX e
theorem str_ok (S:St P C W h env s) {x v:V} {y:Value} (rx:RV P W h.n x y) (e:call1 h 4 x=.v v h') (g:Go P C W h env h' v Q):wpAny (Cx.M P) A (call (.type "str") [y]) Q E s:=by
 induction x using V.casesOn with
 | int i=>
  induction i using Int.casesOn with
  | ofNat i=>
   refine pL fun G0 hG0=>?_
   have e:ifT (Nat.blt i 900) (.v .dyn h)=.v v h':=e
   obtain ⟨q,e2⟩:=ifT_v e
   (obtain ⟨rfl,rfl⟩:=R.v.inj e2)
   rw [blt_eq,decide_eq_true_iff] at q
   obtain ⟨t,rfl⟩:=rvI rx
   refine hG0 ?_
   have hl:=len_str_of_int (Int.ofNat i)
   have hz:0≤Int.ofNat i∧Int.ofNat i < 900:=by constructor <;> (rw [ofN]; lia)
   refine str_of_int_fit (N:=1000) ?_ (by decide) fun _=>g.here S _ ?_
   ·split <;> lia
   ·simp only [RV]
    exact ⟨_,_,rfl,by lia⟩
  | negSucc _=>exact rX e
 | _=>exact rX e
theorem insS_perm (x:Int):∀ l:List Int,(insS x l).Perm (x::l)
 | []=>.refl _
 | y::r=>by
  have e:insS x (y::r)=match ilt y x with | true=>y::insS x r | false=>x::y::r:=rfl
  rw [e]
  cases ilt y x with
  | true=>exact ((insS_perm x r).cons y).trans (.swap _ _ _)
  | false=>exact .refl _
theorem sortI_perm:∀ l:List Int,(sortI l).Perm l
 | []=>.refl _
 | x::l=>(insS_perm x (sortI l)).trans ((sortI_perm l).cons x)
theorem insS_sorted (x:Int):∀ l:List Int,l.Pairwise (·≤·)→(insS x l).Pairwise (·≤·)
 | [],_=>by show [x].Pairwise _; simp
 | y::r,hs=>by
  have e:insS x (y::r)=match ilt y x with | true=>y::insS x r | false=>x::y::r:=rfl
  rw [e,ilt_eq]
  rw [List.pairwise_cons] at hs
  by_cases q:y < x
  ·rw [decide_eq_true q]
   refine List.pairwise_cons.mpr ⟨fun a ha=>?_,insS_sorted x r hs.2⟩
   rcases List.mem_cons.mp ((insS_perm x r).mem_iff.mp ha) with rfl | ha
   ·lia
   ·exact hs.1 a ha
  ·rw [decide_eq_false q]
   refine List.pairwise_cons.mpr ⟨fun a ha=>?_,List.pairwise_cons.mpr hs⟩
   rcases List.mem_cons.mp ha with rfl | ha
   ·lia
   ·have:=hs.1 a ha; lia
theorem sortI_sorted:∀ l:List Int,(sortI l).Pairwise (·≤·)
 | []=>.nil
 | x::l=>insS_sorted x _ (sortI_sorted l)
theorem sorted_uniq:∀ {a b:List Int},a.Perm b→a.Pairwise (·≤·)→b.Pairwise (·≤·)→a=b
 | [],b,p,_,_=>(List.Perm.nil_eq p)
 | x::a,[],p,_,_=>by simp at p
 | x::a,y::b,p,ha,hb=>by
  rw [List.pairwise_cons] at ha hb
  have hx:x=y:=by
   have h1:x∈y::b:=p.mem_iff.mp (.head _)
   have h2:y∈x::a:=p.mem_iff.mpr (.head _)
   rcases List.mem_cons.mp h1 with h1 | h1
   ·exact h1
   ·rcases List.mem_cons.mp h2 with h2 | h2
    ·exact h2.symm
    ·have:=hb.1 x h1; have:=ha.1 y h2; lia
  subst hx
  rw [sorted_uniq (List.Perm.cons_inv p) ha.2 hb.2]
theorem mapInt_eq:∀ l:List Int,mapInt l=l.map .int
 | []=>rfl
 | x::l=>by show V.int x::mapInt l=_; rw [mapInt_eq l]; rfl
theorem ints_rvs {n:Nat}:∀ (is:List Int) (ys:List Value),RVs P W n (is.map .int) ys→IntsAre ys is
 | [],_,r=>by cases r; exact .nil
 | i::is,_,r=>by
  cases r with
  | cons a b=>
   obtain ⟨t,rfl⟩:=rvI a
   exact .cons i t (ints_rvs is _ b)
theorem rvs_ints {n:Nat}:∀ (is:List Int) (ys:List Value),IntsAre ys is→RVs P W n (is.map .int) ys
 | _,_,.nil=>.nil
 | _,_,.cons i t r=>.cons (rvMk t) (rvs_ints _ _ r)
theorem sorted_ok (S:St P C W h env s) {x v:V} {y:Value} (rx:RV P W h.n x y) (e:call1 h 2 x=.v v h') (g:Go P C W h env h' v Q):wpAny (Cx.M P) A (call (.builtin "sorted") [y]) Q E s:=by
 refine pL fun G0 hG0=>?_
 have e:(lst h x fun _ n t=>R.ofO (toL t n) fun xs=>R.ofO (intsL xs) fun is=>lid (Nat.blt is.length 64) (R.newL h ((mapInt (sortI is)))))=.v v h':=e
 obtain ⟨a,k,t,rfl,ea,e1⟩:=lst_v e
 obtain ⟨xs,e2,e3⟩:=ofO_v e1
 obtain ⟨is,e4,e5⟩:=ofO_v e3
 obtain ⟨e6,e7⟩:=lid_v e5
 rw [blt_eq,decide_eq_true_iff] at e6
 obtain ⟨_,rfl⟩:=rv_ref rx
 obtain ⟨_,its,ep,m,hs,hle,hget⟩:=list_at S ea
 have r:=list_rvs e2 hs hget
 rw [intsL_get e4] at r
 obtain ⟨mm,F,Em⟩:=S.fr
 obtain ⟨q1,q2,rfl,rfl⟩:=newL_v e7
 refine hG0 ?_
 refine kso_sorted F S.nw (by simpa using isList_at S m) (ints_rvs is _ r) e6 fun D vs' ns' c hp F' N' f ha _ hp' ho _=>?_
 have en:ns'=sortI is:=sorted_uniq (hp'.trans (sortI_perm is).symm) ho (sortI_sorted is)
 subst en
 have f':∀ p∈W.ns,p.1 < D:=fun p hp=>f p hp
 have L:=le_add W h.n D (listOf vs'.toArray c)
 obtain ⟨S',X⟩:=S.add (ob:=mkL (mapInt (sortI is))) F' Em N' f' q2 (mkL_ro (.head _) (by rw [mapInt_eq]; exact rvs_ints _ _ ha) q1) s.toks
 refine g _ _ _ X S' ?_
 simp only [RV]
 exact ⟨Nat.lt_succ_self _,by rw [add_si]⟩
end
end Mine
namespace Mine
variable {P:Pm} {C:Cx} {W W' W0:Wd} {h h' h0:Hp} {env:List V} {s:Shared} {d n:Nat} {cf:CF} {z:V}
theorem callB_ok {A:Around} {E:Value→Shared→Prop} {Q:Value→Shared→Prop} (S:St P C W h env s) {k:Nat} {y:Value} (gr:GR P P.K (.bi k) y) {xs:List V} {v:V} {ys:List Value} (rx:RVs P W h.n xs ys) (e:callB h k xs=.v v h') (g:Go P C W h env h' v Q) :
  wpAny (Cx.M P) A (call y ys) Q E s:=by
 have one:∀ {f:V→R},(match xs with | [x]=>f x | _=>R.no)=.v v h'→∃ x u,xs=[x]∧ys=[u]∧RV P W h.n x u∧f x=.v v h':=by
  intro f e
  cases rx with
  | nil=>exact rX e
  | cons r rs=>cases rs with
   | nil=>exact ⟨_,_,rfl,rfl,r,e⟩
   | cons _ _=>exact rX e
 match k,gr,e with
 | 0,gr,e=>
  refine pL fun G0 hG0=>?_
  obtain ⟨x,u,rfl,rfl,r,e⟩:=one (f:=call1 h 0) e
  refine hG0 ?_
  have gr:y=.builtin "len":=gr
  rw [gr]
  exact len_ok S r e g
 | 1,gr,e=>
  have gr:y=.type "range":=gr
  rw [gr]
  exact rng_ok S rx e g
 | 2,gr,e=>
  refine pL fun G0 hG0=>?_
  obtain ⟨x,u,rfl,rfl,r,e⟩:=one (f:=call1 h 2) e
  refine hG0 ?_
  have gr:y=.builtin "sorted":=gr
  rw [gr]
  exact sorted_ok S r e g
 | 3,gr,e=>
  refine pL fun G0 hG0=>?_
  obtain ⟨x,u,rfl,rfl,r,e⟩:=one (f:=call1 h 3) e
  refine hG0 ?_
  have gr:y=.type "tuple":=gr
  rw [gr]
  exact tuple_ok S r e g
 | 4,gr,e=>
  refine pL fun G0 hG0=>?_
  obtain ⟨x,u,rfl,rfl,r,e⟩:=one (f:=call1 h 4) e
  refine hG0 ?_
  have gr:y=.type "str":=gr
  rw [gr]
  exact str_ok S r e g
 | k + 5,gr,e=>exact gr.elim
theorem Cx.Ok.less (ok:C.Ok P (d + 1)):C.Ok P d:=⟨ok.pok,ok.below,ok.frames,ok.x,ok.t,by have:=ok.depth; lia,by have:=ok.units; lia,ok.handled,ok.kind,ok.nod,ok.loc,ok.cel,ok.dbg⟩
theorem step_ok {ih:CF} (G:GOk P P.K) (CA:ClsAll P) (SC:SndCF P d ih)
  (fn:∀ f q,fnT.get f=some q→∀ (C:Cx),C.Ok P (d + 1)→∀ W h env s args vs v h' Q E,St P C W h env s→RVs P W h.n args vs→enter ih args h q=.v v h'→Go P C W h env h' v Q→codeAny (Cx.M P) C.A (.call (.ref (P.fa f)) ⟨vs,[]⟩) (Ret Q E) s):SndCF P (d + 1) (callStep ih):=by
 refine ⟨fun C ok W h env s g args vs v h' Q E S ra e go=>?_,fun C ok W h env s f args vs v h' Q E S ra e go=>?_⟩
 ·have e:(R.ofO (glbT.get g) fun q=>callG ih args h q)=.v v h':=e
  obtain ⟨q,eg,e1⟩:=ofO_v e
  have gr:=G g q eg
  cases q with
  | fn fi=>
   have gr:P.gv g=.ref (P.fa fi):=gr
   rw [gr]
   exact call_of_code (SC.2 C ok.less W h env s fi args vs v h' Q E S ra e1 go)
  | cls c=>
   have gr:P.gv g=.ref (P.ca c):=gr
   rw [gr]
   refine pL fun G0 hG0=>?_
   obtain ⟨ms,hc,e2⟩:=ofO_v (o:=clsT.get c) e1
   obtain ⟨fi,hf,e3⟩:=ofO_v (o:=assoc n_init ms) e2
   refine hG0 ?_
   exact make_ok SC CA ok hc hf S ra e3 go
  | bi k=>exact callB_ok S gr ra e1 go
  | val _=>exact rX e1
  | tab _=>exact rX e1
 ·have e:(R.ofO (fnT.get f) fun q=>enter ih args h q)=.v v h':=e
  obtain ⟨q,ef,e1⟩:=ofO_v e
  exact fn f q ef C ok W h env s args vs v h' Q E S ra e1 go
theorem none_ok:SndCF P d (fun _ _ _=>.no):=by
 refine ⟨?_,?_⟩
 ·intro C ok W h env s g args vs v h' Q E S ra e go
  exact rX e
 ·intro C ok W h env s f args vs v h' Q E S ra e go
  exact rX e
end Mine
namespace Mine
variable {P:Pm} {C:Cx} {W W' W0:Wd} {h h' h0:Hp} {env:List V} {s:Shared} {d n:Nat} {cf:CF} {z:V}
noncomputable abbrev k1 {A0 α:Type} (a:α):A0→α:=fun _=>a
noncomputable abbrev k2 {A0 A1 α:Type} (a:α):A0→A1→α:=fun _ _=>a
noncomputable abbrev k3 {A0 A1 A2 α:Type} (a:α):A0→A1→A2→α:=fun _ _ _=>a
noncomputable abbrev k4 {A0 A1 A2 A3 α:Type} (a:α):A0→A1→A2→A3→α:=fun _ _ _ _=>a
noncomputable abbrev k5 {A0 A1 A2 A3 A4 α:Type} (a:α):A0→A1→A2→A3→A4→α:=fun _ _ _ _ _=>a
noncomputable abbrev k7 {A0 A1 A2 A3 A4 A5 A6 α:Type} (a:α):A0→A1→A2→A3→A4→A5→A6→α:=fun _ _ _ _ _ _ _=>a
noncomputable abbrev k10 {A0 A1 A2 A3 A4 A5 A6 A7 A8 A9 α:Type} (a:α):A0→A1→A2→A3→A4→A5→A6→A7→A8→A9→α:=fun _ _ _ _ _ _ _ _ _ _=>a
noncomputable abbrev k11 {A0 A1 A2 A3 A4 A5 A6 A7 A8 A9 A10 α:Type} (a:α):A0→A1→A2→A3→A4→A5→A6→A7→A8→A9→A10→α:=fun _ _ _ _ _ _ _ _ _ _ _=>a
noncomputable def tg (x:Expr):Nat:=Expr.casesOn (motive_1:=fun _=>Nat) x (k3 0) (k3 1) (k4 2) (k3 3) (k4 4) (k4 5) (k3 6) (k3 7) (k4 8) (k4 9) (k5 10) (k4 11) (k2 12) (k2 13) (k2 14) (k4 15) (k4 16) (k4 17) (k2 18) (k3 19) (k3 20) (k3 21) (k2 22) (k2 23) (k2 24) (k3 25) (k4 26)
noncomputable def eK (k:Const→Bool) (x:Expr):Bool:=Expr.casesOn (motive_1:=fun _=>Bool) x (k3 false) (k3 false) (k4 false) (k3 false) (k4 false) (k4 false) (k3 false) (k3 false) (k4 false) (k4 false) (k5 false) (k4 false) (k2 false) (k2 false) (k2 false) (k4 false) (k4 false) (k4 false) (k2 false) (fun v _ _=>k v) (k3 false) (k3 false) (k2 false) (k2 false) (k2 false) (k3 false) (k4 false)
theorem eK_a {Q:Expr→Prop} {k:Const→Bool} (c:∀ v n p,k v=true→Q (.Constant v n p)):∀ x,eK k x=true→Q x:=by
 intro x; induction x using Expr.casesOn <;> first | exact ft | exact c _ _ _
noncomputable def eN (k:Str→Pos→Bool) (x:Expr):Bool:=Expr.casesOn (motive_1:=fun _=>Bool) x (k3 false) (k3 false) (k4 false) (k3 false) (k4 false) (k4 false) (k3 false) (k3 false) (k4 false) (k4 false) (k5 false) (k4 false) (k2 false) (k2 false) (k2 false) (k4 false) (k4 false) (k4 false) (k2 false) (k3 false) (k3 false) (k3 false) (k2 false) (fun y p=>k y p) (k2 false) (k3 false) (k4 false)
theorem eN_a {Q:Expr→Prop} {k:Str→Pos→Bool} (c:∀ y p,k y p=true→Q (.Name y p)):∀ x,eN k x=true→Q x:=by
 intro x; induction x using Expr.casesOn <;> first | exact ft | exact c _ _
noncomputable def eA (k:Expr→Str→Pos→Bool) (x:Expr):Bool:=Expr.casesOn (motive_1:=fun _=>Bool) x (k3 false) (k3 false) (k4 false) (k3 false) (k4 false) (k4 false) (k3 false) (k3 false) (k4 false) (k4 false) (k5 false) (k4 false) (k2 false) (k2 false) (k2 false) (k4 false) (k4 false) (k4 false) (k2 false) (k3 false) (fun a n p=>k a n p) (k3 false) (k2 false) (k2 false) (k2 false) (k3 false) (k4 false)
theorem eA_a {Q:Expr→Prop} {k:Expr→Str→Pos→Bool} (c:∀ a n p,k a n p=true→Q (.Attribute a n p)):∀ x,eA k x=true→Q x:=by
 intro x; induction x using Expr.casesOn <;> first | exact ft | exact c _ _ _
noncomputable def eB (k:Expr→Operator→Expr→Bool) (x:Expr):Bool:=Expr.casesOn (motive_1:=fun _=>Bool) x (k3 false) (k3 false) (fun a o b _=>k a o b) (k3 false) (k4 false) (k4 false) (k3 false) (k3 false) (k4 false) (k4 false) (k5 false) (k4 false) (k2 false) (k2 false) (k2 false) (k4 false) (k4 false) (k4 false) (k2 false) (k3 false) (k3 false) (k3 false) (k2 false) (k2 false) (k2 false) (k3 false) (k4 false)
theorem eB_a {Q:Expr→Prop} {k:Expr→Operator→Expr→Bool} (c:∀ a o b p,k a o b=true→Q (.BinOp a o b p)):∀ x,eB k x=true→Q x:=by
 intro x; induction x using Expr.casesOn <;> first | exact ft | exact c _ _ _ _
noncomputable def eU (k:UnaryOp→Expr→Bool) (x:Expr):Bool:=Expr.casesOn (motive_1:=fun _=>Bool) x (k3 false) (k3 false) (k4 false) (fun o a _=>k o a) (k4 false) (k4 false) (k3 false) (k3 false) (k4 false) (k4 false) (k5 false) (k4 false) (k2 false) (k2 false) (k2 false) (k4 false) (k4 false) (k4 false) (k2 false) (k3 false) (k3 false) (k3 false) (k2 false) (k2 false) (k2 false) (k3 false) (k4 false)
theorem eU_a {Q:Expr→Prop} {k:UnaryOp→Expr→Bool} (c:∀ o a p,k o a=true→Q (.UnaryOp o a p)):∀ x,eU k x=true→Q x:=by
 intro x; induction x using Expr.casesOn <;> first | exact ft | exact c _ _ _
noncomputable def eO (k:BoolOp→List Expr→Bool) (x:Expr):Bool:=Expr.casesOn (motive_1:=fun _=>Bool) x (fun o a _=>k o a) (k3 false) (k4 false) (k3 false) (k4 false) (k4 false) (k3 false) (k3 false) (k4 false) (k4 false) (k5 false) (k4 false) (k2 false) (k2 false) (k2 false) (k4 false) (k4 false) (k4 false) (k2 false) (k3 false) (k3 false) (k3 false) (k2 false) (k2 false) (k2 false) (k3 false) (k4 false)
theorem eO_a {Q:Expr→Prop} {k:BoolOp→List Expr→Bool} (c:∀ o a p,k o a=true→Q (.BoolOp o a p)):∀ x,eO k x=true→Q x:=by
 intro x; induction x using Expr.casesOn <;> first | exact ft | exact c _ _ _
noncomputable def eC (k:Expr→List CmpOp→List Expr→Bool) (x:Expr):Bool:=Expr.casesOn (motive_1:=fun _=>Bool) x (k3 false) (k3 false) (k4 false) (k3 false) (k4 false) (k4 false) (k3 false) (k3 false) (k4 false) (k4 false) (k5 false) (k4 false) (k2 false) (k2 false) (k2 false) (fun a o b _=>k a o b) (k4 false) (k4 false) (k2 false) (k3 false) (k3 false) (k3 false) (k2 false) (k2 false) (k2 false) (k3 false) (k4 false)
theorem eC_a {Q:Expr→Prop} {k:Expr→List CmpOp→List Expr→Bool} (c:∀ a o b p,k a o b=true→Q (.Compare a o b p)):∀ x,eC k x=true→Q x:=by
 intro x; induction x using Expr.casesOn <;> first | exact ft | exact c _ _ _ _
noncomputable def eI (k:Expr→Expr→Expr→Bool) (x:Expr):Bool:=Expr.casesOn (motive_1:=fun _=>Bool) x (k3 false) (k3 false) (k4 false) (k3 false) (k4 false) (fun a b c _=>k a b c) (k3 false) (k3 false) (k4 false) (k4 false) (k5 false) (k4 false) (k2 false) (k2 false) (k2 false) (k4 false) (k4 false) (k4 false) (k2 false) (k3 false) (k3 false) (k3 false) (k2 false) (k2 false) (k2 false) (k3 false) (k4 false)
theorem eI_a {Q:Expr→Prop} {k:Expr→Expr→Expr→Bool} (c:∀ a b c p,k a b c=true→Q (.IfExp a b c p)):∀ x,eI k x=true→Q x:=by
 intro x; induction x using Expr.casesOn <;> first | exact ft | exact c _ _ _ _
noncomputable def eT (k:List Expr→Bool) (x:Expr):Bool:=Expr.casesOn (motive_1:=fun _=>Bool) x (k3 false) (k3 false) (k4 false) (k3 false) (k4 false) (k4 false) (k3 false) (k3 false) (k4 false) (k4 false) (k5 false) (k4 false) (k2 false) (k2 false) (k2 false) (k4 false) (k4 false) (k4 false) (k2 false) (k3 false) (k3 false) (k3 false) (k2 false) (k2 false) (k2 false) (fun a _ _=>k a) (k4 false)
theorem eT_a {Q:Expr→Prop} {k:List Expr→Bool} (c:∀ a n p,k a=true→Q (.Tuple a n p)):∀ x,eT k x=true→Q x:=by
 intro x; induction x using Expr.casesOn <;> first | exact ft | exact c _ _ _
noncomputable def eL (k:List Expr→Bool) (x:Expr):Bool:=Expr.casesOn (motive_1:=fun _=>Bool) x (k3 false) (k3 false) (k4 false) (k3 false) (k4 false) (k4 false) (k3 false) (k3 false) (k4 false) (k4 false) (k5 false) (k4 false) (k2 false) (k2 false) (k2 false) (k4 false) (k4 false) (k4 false) (k2 false) (k3 false) (k3 false) (k3 false) (k2 false) (k2 false) (fun a _=>k a) (k3 false) (k4 false)
theorem eL_a {Q:Expr→Prop} {k:List Expr→Bool} (c:∀ a p,k a=true→Q (.List a p)):∀ x,eL k x=true→Q x:=by
 intro x; induction x using Expr.casesOn <;> first | exact ft | exact c _ _
noncomputable def eD (k:List (Option Expr)→List Expr→Bool) (x:Expr):Bool:=Expr.casesOn (motive_1:=fun _=>Bool) x (k3 false) (k3 false) (k4 false) (k3 false) (k4 false) (k4 false) (fun a b _=>k a b) (k3 false) (k4 false) (k4 false) (k5 false) (k4 false) (k2 false) (k2 false) (k2 false) (k4 false) (k4 false) (k4 false) (k2 false) (k3 false) (k3 false) (k3 false) (k2 false) (k2 false) (k2 false) (k3 false) (k4 false)
theorem eD_a {Q:Expr→Prop} {k:List (Option Expr)→List Expr→Bool} (c:∀ a b p,k a b=true→Q (.Dict a b p)):∀ x,eD k x=true→Q x:=by
 intro x; induction x using Expr.casesOn <;> first | exact ft | exact c _ _ _
noncomputable def eS (k:Expr→Expr→Bool) (x:Expr):Bool:=Expr.casesOn (motive_1:=fun _=>Bool) x (k3 false) (k3 false) (k4 false) (k3 false) (k4 false) (k4 false) (k3 false) (k3 false) (k4 false) (k4 false) (k5 false) (k4 false) (k2 false) (k2 false) (k2 false) (k4 false) (k4 false) (k4 false) (k2 false) (k3 false) (k3 false) (fun a b _=>k a b) (k2 false) (k2 false) (k2 false) (k3 false) (k4 false)
theorem eS_a {Q:Expr→Prop} {k:Expr→Expr→Bool} (c:∀ a b p,k a b=true→Q (.Subscript a b p)):∀ x,eS k x=true→Q x:=by
 intro x; induction x using Expr.casesOn <;> first | exact ft | exact c _ _ _
noncomputable def eZ (k:Option Expr→Option Expr→Option Expr→Bool) (x:Expr):Bool:=Expr.casesOn (motive_1:=fun _=>Bool) x (k3 false) (k3 false) (k4 false) (k3 false) (k4 false) (k4 false) (k3 false) (k3 false) (k4 false) (k4 false) (k5 false) (k4 false) (k2 false) (k2 false) (k2 false) (k4 false) (k4 false) (k4 false) (k2 false) (k3 false) (k3 false) (k3 false) (k2 false) (k2 false) (k2 false) (k3 false) (fun a b c _=>k a b c)
theorem eZ_a {Q:Expr→Prop} {k:Option Expr→Option Expr→Option Expr→Bool} (c:∀ a b c p,k a b c=true→Q (.Slice a b c p)):∀ x,eZ k x=true→Q x:=by
 intro x; induction x using Expr.casesOn <;> first | exact ft | exact c _ _ _ _
noncomputable def eF (k:Expr→List Expr→List Keyword→Pos→Bool) (x:Expr):Bool:=Expr.casesOn (motive_1:=fun _=>Bool) x (k3 false) (k3 false) (k4 false) (k3 false) (k4 false) (k4 false) (k3 false) (k3 false) (k4 false) (k4 false) (k5 false) (k4 false) (k2 false) (k2 false) (k2 false) (k4 false) (fun a b c p=>k a b c p) (k4 false) (k2 false) (k3 false) (k3 false) (k3 false) (k2 false) (k2 false) (k2 false) (k3 false) (k4 false)
theorem eF_a {Q:Expr→Prop} {k:Expr→List Expr→List Keyword→Pos→Bool} (c:∀ a b c p,k a b c p=true→Q (.Call a b c p)):∀ x,eF k x=true→Q x:=by
 intro x; induction x using Expr.casesOn <;> first | exact ft | exact c _ _ _ _
noncomputable def eG (k:Expr→List Comprehension→Scope→Pos→Bool) (x:Expr):Bool:=Expr.casesOn (motive_1:=fun _=>Bool) x (k3 false) (k3 false) (k4 false) (k3 false) (k4 false) (k4 false) (k3 false) (k3 false) (fun a b c p=>k a b c p) (k4 false) (k5 false) (k4 false) (k2 false) (k2 false) (k2 false) (k4 false) (k4 false) (k4 false) (k2 false) (k3 false) (k3 false) (k3 false) (k2 false) (k2 false) (k2 false) (k3 false) (k4 false)
theorem eG_a {Q:Expr→Prop} {k:Expr→List Comprehension→Scope→Pos→Bool} (c:∀ a b c p,k a b c p=true→Q (.ListComp a b c p)):∀ x,eG k x=true→Q x:=by
 intro x; induction x using Expr.casesOn <;> first | exact ft | exact c _ _ _ _
noncomputable def sA (k:List Expr→Expr→Pos→Bool) (x:Stmt):Bool:=Stmt.casesOn (motive_2:=fun _=>Bool) x (k10 false) (k10 false) (k11 false) (k2 false) (k2 false) (fun a b p=>k a b p) (k7 false) (k4 false) (k5 false) (k5 false) (k5 false) (k4 false) (k4 false) (k3 false) (k3 false) (k3 false) (k3 false) (k5 false) (k5 false) (k3 false) (k2 false) (k4 false) (k2 false) (k2 false) (k2 false) (k1 false) (k1 false) (k1 false)
theorem sA_a {Q:Stmt→Prop} {k:List Expr→Expr→Pos→Bool} (c:∀ a b p,k a b p=true→Q (.Assign a b p)):∀ x,sA k x=true→Q x:=by
 intro x; induction x using Stmt.casesOn <;> first | exact ft | exact c _ _ _
noncomputable def sU (k:Expr→Operator→Expr→Bool) (x:Stmt):Bool:=Stmt.casesOn (motive_2:=fun _=>Bool) x (k10 false) (k10 false) (k11 false) (k2 false) (k2 false) (k3 false) (k7 false) (fun a o b _=>k a o b) (k5 false) (k5 false) (k5 false) (k4 false) (k4 false) (k3 false) (k3 false) (k3 false) (k3 false) (k5 false) (k5 false) (k3 false) (k2 false) (k4 false) (k2 false) (k2 false) (k2 false) (k1 false) (k1 false) (k1 false)
theorem sU_a {Q:Stmt→Prop} {k:Expr→Operator→Expr→Bool} (c:∀ a o b p,k a o b=true→Q (.AugAssign a o b p)):∀ x,sU k x=true→Q x:=by
 intro x; induction x using Stmt.casesOn <;> first | exact ft | exact c _ _ _ _
noncomputable def sE (k:Expr→Bool) (x:Stmt):Bool:=Stmt.casesOn (motive_2:=fun _=>Bool) x (k10 false) (k10 false) (k11 false) (k2 false) (k2 false) (k3 false) (k7 false) (k4 false) (k5 false) (k5 false) (k5 false) (k4 false) (k4 false) (k3 false) (k3 false) (k3 false) (k3 false) (k5 false) (k5 false) (k3 false) (k2 false) (k4 false) (k2 false) (k2 false) (fun a _=>k a) (k1 false) (k1 false) (k1 false)
theorem sE_a {Q:Stmt→Prop} {k:Expr→Bool} (c:∀ a p,k a=true→Q (.Expr a p)):∀ x,sE k x=true→Q x:=by
 intro x; induction x using Stmt.casesOn <;> first | exact ft | exact c _ _
noncomputable def sR (k:Option Expr→Bool) (x:Stmt):Bool:=Stmt.casesOn (motive_2:=fun _=>Bool) x (k10 false) (k10 false) (k11 false) (fun a _=>k a) (k2 false) (k3 false) (k7 false) (k4 false) (k5 false) (k5 false) (k5 false) (k4 false) (k4 false) (k3 false) (k3 false) (k3 false) (k3 false) (k5 false) (k5 false) (k3 false) (k2 false) (k4 false) (k2 false) (k2 false) (k2 false) (k1 false) (k1 false) (k1 false)
theorem sR_a {Q:Stmt→Prop} {k:Option Expr→Bool} (c:∀ a p,k a=true→Q (.Return a p)):∀ x,sR k x=true→Q x:=by
 intro x; induction x using Stmt.casesOn <;> first | exact ft | exact c _ _
noncomputable def sI (k:Expr→List Stmt→List Stmt→Bool) (x:Stmt):Bool:=Stmt.casesOn (motive_2:=fun _=>Bool) x (k10 false) (k10 false) (k11 false) (k2 false) (k2 false) (k3 false) (k7 false) (k4 false) (k5 false) (k5 false) (k5 false) (k4 false) (fun a b c _=>k a b c) (k3 false) (k3 false) (k3 false) (k3 false) (k5 false) (k5 false) (k3 false) (k2 false) (k4 false) (k2 false) (k2 false) (k2 false) (k1 false) (k1 false) (k1 false)
theorem sI_a {Q:Stmt→Prop} {k:Expr→List Stmt→List Stmt→Bool} (c:∀ a b c p,k a b c=true→Q (.If a b c p)):∀ x,sI k x=true→Q x:=by
 intro x; induction x using Stmt.casesOn <;> first | exact ft | exact c _ _ _ _
noncomputable def sF (k:Expr→Expr→List Stmt→List Stmt→Bool) (x:Stmt):Bool:=Stmt.casesOn (motive_2:=fun _=>Bool) x (k10 false) (k10 false) (k11 false) (k2 false) (k2 false) (k3 false) (k7 false) (k4 false) (k5 false) (fun a b c e _=>k a b c e) (k5 false) (k4 false) (k4 false) (k3 false) (k3 false) (k3 false) (k3 false) (k5 false) (k5 false) (k3 false) (k2 false) (k4 false) (k2 false) (k2 false) (k2 false) (k1 false) (k1 false) (k1 false)
theorem sF_a {Q:Stmt→Prop} {k:Expr→Expr→List Stmt→List Stmt→Bool} (c:∀ a b c e p,k a b c e=true→Q (.For a b c e p)):∀ x,sF k x=true→Q x:=by
 intro x; induction x using Stmt.casesOn <;> first | exact ft | exact c _ _ _ _ _
noncomputable def sP (k:Bool) (x:Stmt):Bool:=Stmt.casesOn (motive_2:=fun _=>Bool) x (k10 false) (k10 false) (k11 false) (k2 false) (k2 false) (k3 false) (k7 false) (k4 false) (k5 false) (k5 false) (k5 false) (k4 false) (k4 false) (k3 false) (k3 false) (k3 false) (k3 false) (k5 false) (k5 false) (k3 false) (k2 false) (k4 false) (k2 false) (k2 false) (k2 false) (fun _=>k) (k1 false) (k1 false)
theorem sP_a {Q:Stmt→Prop} {k:Bool} (c:∀ p,k=true→Q (.Pass p)):∀ x,sP k x=true→Q x:=by
 intro x; induction x using Stmt.casesOn <;> first | exact ft | exact c _
noncomputable def noStar (e:Expr):Bool:=!Nat.beq (tg e) 22
theorem star_cons {e:Expr} (he:noStar e=true) (es:List Expr) (env:Env):starEach (e::es) env=(false,eval e env)::starEach es env:=by
 revert he; induction e using Expr.casesOn <;> first | exact ft | exact fun _=>rfl
theorem star_map {es:List Expr} (h:es.all noStar=true) (env:Env):starEach es env=es.map fun e=>(false,eval e env):=by
 induction es with
 | nil=>rfl
 | cons e es ih=>
  rw [List.all_cons,Bool.and_eq_true] at h
  rw [star_cons h.1,ih h.2,List.map_cons]
theorem star_any {es:List Expr} (h:es.all noStar=true) (pos:Pos) (env:Env):(backTo pos (starEach es env)).any (·.1)=false:=by
 rw [star_map h]
 clear h
 induction es with
 | nil=>rfl
 | cons e es ih=>exact ih
theorem star_all {es:List Expr} (h:es.all noStar=true) (pos:Pos) (env:Env):(backTo pos (starEach es env)).all (!·.1)=true:=by
 rw [star_map h]
 clear h
 induction es with
 | nil=>rfl
 | cons e es ih=>exact ih
theorem star_hs {es:List Expr} (h:es.all noStar=true) (env:Env) (pos:Pos):∀ e es',es=e::es'→starEach es env=(false,eval e env)::starEach es' env∧(backTo pos (starEach es' env)).any (·.1)=false:=by
 rintro e es' rfl
 rw [List.all_cons,Bool.and_eq_true] at h
 exact ⟨star_cons h.1 es' env,star_any h.2 pos env⟩
noncomputable def plainBase (e:Expr):Bool:=!eF (fun f as ks _=>as.isEmpty && (ks.isEmpty && Nat.beq (tg f) 23)) e
theorem base_eq {o:Expr} (h:plainBase o=true) (attr:Str) (env:Env) (whole:Sem Value):attributeBase o attr env whole=whole:=by
 revert h; induction o using Expr.casesOn with
 | Call f as ks p=>
  induction f using Expr.casesOn with
  | Name=>
   induction as using List.casesOn with
   | cons=>exact fun _=>rfl
   | nil=>induction ks using List.casesOn <;> first | exact ft | exact fun _=>rfl
  | _=>exact fun _=>rfl
 | _=>exact fun _=>rfl
theorem attr_eq {ea:Expr} (h:plainBase ea=true) (a:Str) (pos:Pos) (env:Env):eval (.Attribute ea a pos) env=(do
   let o ← eval ea env
   standAt pos.atName
   let r ← holding [o] (getAttr o a true)
   letTemporaryGo ea o r
   pure r):=by
 show (do
  let o ← attributeBase ea a env (eval ea env)
  standAt pos.atName
  let r ← holding [o] (getAttr o a true)
  letTemporaryGo ea o r
  pure r)=_
 rw [base_eq h]
noncomputable def isAttr (e:Expr):Bool:=Nat.beq (tg e) 20
theorem call_eq {ef:Expr} (h:isAttr ef=false) (es:List Expr) (pos:Pos) (env:Env):eval (.Call ef es [] pos) env=(do callWith pos (← eval ef env) [] (backTo pos (starEach es env)) (backToKw pos (keywordEach [] env))):=by
 revert h; induction ef using Expr.casesOn <;> first | exact tf | exact fun _=>rfl
theorem meth_eq {eo:Expr} {name:Str} {apos pos:Pos} {es:List Expr} (h1:plainBase eo=true) (h2:es.all noStar=true) (h3:es.length < 30) (h4:(apos.endLine == pos.line)=true) (env:Env):eval (.Call (.Attribute eo name apos) es [] pos) env=(do
   let ov ← eval eo env
   standAt apos.atName
   let (f,first) ← holding [ov] (getMethod ov name (do return (← importBound eo env).getD true))
   callWith pos f first (backTo pos (starEach es env)) (backToKw pos (keywordEach [] env))):=by
 show (do
  let ov ← attributeBase eo name env (eval eo env)
  standAt apos.atName
  methodCall eo name apos pos env ov (es.length + 0) (backTo pos (starEach es env)) (backToKw pos (keywordEach [] env)))=_
 rw [base_eq h1]
 have hf:methodCallForm (es.length + 0) (backTo pos (starEach es env)) (backToKw pos (keywordEach [] env))=true:=by
  unfold methodCallForm
  rw [star_all h2]
  show (true && true && decide (es.length + 0 + 0 < 30))=true
  simp [h3]
 unfold methodCall methodCallPos calleeOf
 rw [hf,h4]
 simp only [Bool.not_true,Bool.false_or,if_true,pure_bind]
noncomputable def plainTest (e:Expr):Bool:=Expr.casesOn (motive_1:=fun _=>Bool) e (k3 false) (k3 true) (k4 true) (fun o _ _=>UnaryOp.casesOn o true false true true) (k4 true) (k4 false) (k3 true) (k3 true) (k4 true) (k4 true) (k5 true) (k4 true) (k2 true) (k2 true) (k2 true) (k4 false) (k4 true) (k4 true) (k2 true) (k3 true) (k3 true) (k3 true) (k2 true) (k2 true) (k2 true) (k3 true) (k4 true)
theorem test_eq {e:Expr} (h:plainTest e=true) (env:Env) (whole:Sem Value):PySem.isTrue e env whole=(do let v ← whole; standAt e.pos; holding [v] (PySem.truthy v)):=by
 revert h; induction e using Expr.casesOn with
 | UnaryOp op=>induction op using UnaryOp.casesOn <;> first | exact ft | exact fun _=>rfl
 | _=>first | exact ft | exact fun _=>rfl
noncomputable def noSlice (e:Expr):Bool:=!Nat.beq (tg e) 26
theorem sub_eq {e:Expr} (h:noSlice e=true) (o i:Value):subscripted e false o i=operate [o,i] (getItem o i):=by
 revert h; induction e using Expr.casesOn <;> first | exact ft | exact fun _=>rfl
noncomputable def noSet (e:Expr):Bool:=!Nat.beq (tg e) 7
theorem fold_eq {e:Expr} (h:noSet e=true) (env:Env) (x:Value):foldedSetIterable e env x=pure x:=by
 revert h; induction e using Expr.casesOn <;> first | exact ft | exact fun _=>rfl
noncomputable def noComp (e:Expr):Bool:=!(Nat.beq (tg e) 8 || (Nat.beq (tg e) 9 || Nat.beq (tg e) 10))
theorem swaps_eq {e:Expr} (h:noComp e=true) (t:Option Expr) (line:Nat) (env:Env):swapsWith e t line env=pure false:=by
 revert h; induction e using Expr.casesOn <;> first | exact ft | exact fun _=>rfl
noncomputable def subT (e:Expr):Bool:=Nat.beq (tg e) 21 || Nat.beq (tg e) 20
theorem swaps_sub {t:Expr} (h:subT t=true) (e:Expr) (line:Nat) (env:Env):swapsWith e (some t) line env=pure false:=by
 have k:∀ a b p,swapsWith e (some (.Subscript a b p)) line env=pure false:=by
  intro a b p; induction e using Expr.casesOn <;> rfl
 have k':∀ a b p,swapsWith e (some (.Attribute a b p)) line env=pure false:=by
  intro a b p; induction e using Expr.casesOn <;> rfl
 revert h; induction t using Expr.casesOn <;> first | exact ft | exact fun _=>k _ _ _ | exact fun _=>k' _ _ _
theorem behind_eq {op:CmpOp} {e:Expr} (h:noSet e=true):behindInMarks op e=false:=by
 revert h; induction e using Expr.casesOn <;> first | exact ft | exact fun _=>rfl
end Mine
namespace Mine
noncomputable section
noncomputable def lB (a:List Nat):List Nat→Bool:=List.rec (fun b=>List.rec true (fun _ _ _=>false) b) (fun x _ ih b=>List.rec false (fun y r _=>Bool.rec false (ih r) (Nat.beq x y)) b) a
noncomputable def sB (a b:Str):Bool:=lB a.cps.toList b.cps.toList
theorem lB_eq:∀ {a b:List Nat},lB a b=true→a=b:=by
 intro a
 induction a with
 | nil=>intro b; induction b using List.casesOn <;> first | exact fun _=>rfl | exact ft
 | cons x a ih=>
  intro b
  induction b using List.casesOn with
  | nil=>exact ft
  | cons y b=>
   intro h
   have h:(Bool.rec false (lB a b) (Nat.beq x y):Bool)=true:=h
   rw [beqD] at h
   by_cases q:x=y
   ·rw [decide_eq_true q] at h
    rw [q,ih h]
   ·rw [decide_eq_false q] at h; exact ft h
theorem lB_refl (a:List Nat):lB a a=true:=by
 induction a with
 | nil=>rfl
 | cons x a ih=>
  show (Bool.rec false (lB a a) (Nat.beq x x):Bool)=true
  rw [beqD,decide_eq_true rfl]
  exact ih
theorem sB_eq {a b:Str} (h:sB a b=true):a=b:=by
 obtain ⟨⟨a⟩⟩:=a
 obtain ⟨⟨b⟩⟩:=b
 exact congrArg (fun l=>Str.mk ⟨l⟩) (lB_eq h)
theorem sB_iff {a b:Str}:sB a b=(a == b):=by
 by_cases q:a=b
 ·subst q; rw [beq_self_eq_true]; exact lB_refl _
 ·rw [beq_eq_false_iff_ne.mpr q]
  exact Bool.eq_false_iff.mpr fun h=>q (sB_eq h)
noncomputable def slk (x:Str) (l:List (Str×NameKind)):Option NameKind:=List.rec none (fun p _ ih=>Bool.rec ih (some p.2) (sB x p.1)) l
theorem slk_eq (x:Str) (l:List (Str×NameKind)):slk x l=l.lookup x:=by
 induction l with
 | nil=>rfl
 | cons p l ih=>
  show (Bool.rec (slk x l) (some p.2) (sB x p.1):Option NameKind)=_
  rw [sB_iff,List.lookup_cons,ih]
  cases x == p.1 <;> rfl
noncomputable def isLoc (o:Option NameKind):Bool:=Option.casesOn o false fun k=>NameKind.casesOn k true false false false false
noncomputable def isGlo (o:Option NameKind):Bool:=Option.casesOn o false fun k=>NameKind.casesOn k false false false false true
theorem isLoc_eq {o:Option NameKind}:isLoc o=true→o=some .local:=by
 induction o using Option.casesOn with
 | none=>exact ft
 | some k=>induction k using NameKind.casesOn <;> first | exact ft | exact fun _=>rfl
theorem isGlo_eq {o:Option NameKind}:isGlo o=true→o=some .globalImplicit:=by
 induction o using Option.casesOn with
 | none=>exact ft
 | some k=>induction k using NameKind.casesOn <;> first | exact ft | exact fun _=>rfl
structure Tb where
 nm:Nat→Str
 gn:Nat→Str
 names:List Str
 sc:Scope
 cells:List Str
structure Cs where
 sc:Scope
 x:Str
 ix:Nat
 fr:Option Str
inductive Sh where
 | no | nil | one | none | int (i:Int) | neg (i:Int) | glb (g:Nat) | tn (i:Nat)
structure Mt where
 e:Expr→Bool
 b:Expr→Bool
 es:List Expr→Bool
 p:List (Option Expr)→List Expr→Bool
 pv:List (Option Expr)→List Expr→Bool
 pt:Nat→List (Option Expr)→List Expr→Bool
 pw:Nat→List (Option Expr)→List Expr→Bool
 l:BoolOp→List Expr→Bool
 t:Expr→Bool
 s:Stmt→Bool
 ss:List Stmt→Bool
 c:Cs→Expr→Bool
 cs:Cs→List Expr→Bool
 cq:Cs→List Expr→Bool
 k:Expr→Bool
 z:Sh
noncomputable def Mt.no:Mt:=⟨fun _=>false,fun _=>false,fun _=>false,fun _ _=>false,fun _ _=>false,fun _ _ _=>false,fun _ _ _=>false,fun _ _=>false,fun _=>false,fun _=>false,fun _=>false,fun _ _=>false,fun _ _=>false,fun _ _=>false,fun _=>false,.no⟩
noncomputable def mM (e b:Expr→Bool) (c:Cs→Expr→Bool) (z:Sh):Mt:={ Mt.no with e:=e,b:=b,c:=c,z:=z }
noncomputable def nE (_:Expr):Bool:=false
noncomputable def nC (_:Cs) (_:Expr):Bool:=false
noncomputable def mL (l:BoolOp→List Expr→Bool):Mt:={ Mt.no with l:=l }
noncomputable def mT (t:Expr→Bool) (z:Sh):Mt:={ Mt.no with t:=t,z:=z }
noncomputable def mS (s:Stmt→Bool):Mt:={ Mt.no with s:=s }
noncomputable def pE (f:Expr→Bool) (ex:Expr):Bool:=f ex && plainTest ex
noncomputable def opB (n:Nat) (o:Operator):Bool:=Operator.casesOn o (Nat.beq n 0) (Nat.beq n 1) (Nat.beq n 2) false false (Nat.beq n 4) false false false false false (Nat.beq n 5) (Nat.beq n 3)
theorem nB_eq {a b:Nat} (h:Nat.beq a b=true):a=b:=Nat.eq_of_beq_eq_true h
theorem opB_a {n:Nat} {Q:Operator→Prop} (c:n≤5→Q (opOf n)) (o:Operator):opB n o=true→Q o:=by
 have k:∀ m,m≤5→Nat.beq n m=true→Q (opOf m):=fun m hm h=>nB_eq h▸c (nB_eq h▸hm)
 induction o using Operator.casesOn <;> first | exact ft | exact k _ (by decide)
noncomputable def cmB (n:Nat) (o:CmpOp):Bool:=CmpOp.casesOn o (Nat.beq n 0) (Nat.beq n 1) (Nat.beq n 2) (Nat.beq n 3) (Nat.beq n 4) (Nat.beq n 5) (Nat.beq n 8) (Nat.beq n 9) (Nat.beq n 6) (Nat.beq n 7)
theorem cmB_a {n:Nat} {Q:CmpOp→Prop} (c:n≤9→Q (cOf n)) (o:CmpOp):cmB n o=true→Q o:=by
 have k:∀ m,m≤9→Nat.beq n m=true→Q (cOf m):=fun m hm h=>nB_eq h▸c (nB_eq h▸hm)
 induction o using CmpOp.casesOn <;> exact k _ (by decide)
noncomputable def nmAt (l:List Str) (i:Nat) (x:Str):Bool:=Option.casesOn (nth l i) false fun y=>sB x y
theorem nmAt_eq {l:List Str} {i:Nat} {x:Str} (h:nmAt l i x=true):l[i]?=some x:=by
 unfold nmAt at h
 rw [← nth_get]
 induction q:nth l i using Option.casesOn with
 | none=>rw [q] at h; exact ft h
 | some y=>rw [q] at h; rw [sB_eq h]
noncomputable def cNone (v:Const):Bool:=Const.casesOn v true (k1 false) (k1 false) (k1 false) (k2 false) (k1 false) (k1 false) false
theorem cNone_a {Q:Const→Prop} (c:Q .none) (v:Const):cNone v=true→Q v:=by
 induction v using Const.casesOn <;> first | exact ft | exact fun _=>c
noncomputable def cBool (b:Bool) (v:Const):Bool:=Const.casesOn v false (fun w=>Bool.rec (!w) w b) (k1 false) (k1 false) (k2 false) (k1 false) (k1 false) false
theorem cBool_a {Q:Const→Prop} {b:Bool} (c:Q (.bool b)) (v:Const):cBool b v=true→Q v:=by
 induction v using Const.casesOn with
 | bool w=>cases b <;> cases w <;> first | exact ft | exact fun _=>c
 | _=>exact ft
noncomputable def cInt (i:Int) (v:Const):Bool:=Const.casesOn v false (k1 false) (fun j=>iB i j) (k1 false) (k2 false) (k1 false) (k1 false) false
theorem iB_t {i j:Int} (h:iB i j=true):i=j:=by rw [iB_eq,decide_eq_true_iff] at h; exact h
theorem cInt_a {Q:Const→Prop} {i:Int} (c:Q (.int i)) (v:Const):cInt i v=true→Q v:=by
 induction v using Const.casesOn with
 | int j=>exact fun h=>iB_t h▸c
 | _=>exact ft
noncomputable def cStr (x:Str) (v:Const):Bool:=Const.casesOn v false (k1 false) (k1 false) (k1 false) (k2 false) (fun y=>sB y x) (k1 false) false
theorem cStr_a {Q:Const→Prop} {x:Str} (c:Q (.str x)) (v:Const):cStr x v=true→Q v:=by
 induction v using Const.casesOn with
 | str y=>exact fun h=>(sB_eq h).symm▸c
 | _=>exact ft
noncomputable def uB (n:Bool) (o:UnaryOp):Bool:=UnaryOp.casesOn o false n false (!n)
theorem uN_a {Q:UnaryOp→Prop} (c:Q .Not) (o:UnaryOp):uB true o=true→Q o:=by
 induction o using UnaryOp.casesOn <;> first | exact ft | exact fun _=>c
theorem uS_a {Q:UnaryOp→Prop} (c:Q .USub) (o:UnaryOp):uB false o=true→Q o:=by
 induction o using UnaryOp.casesOn <;> first | exact ft | exact fun _=>c
noncomputable def oB (n:Bool) (o:BoolOp):Bool:=BoolOp.casesOn o n (!n)
theorem oA_a {Q:BoolOp→Prop} (c:Q .And) (o:BoolOp):oB true o=true→Q o:=by
 induction o using BoolOp.casesOn <;> first | exact ft | exact fun _=>c
theorem oO_a {Q:BoolOp→Prop} (c:Q .Or) (o:BoolOp):oB false o=true→Q o:=by
 induction o using BoolOp.casesOn <;> first | exact ft | exact fun _=>c
noncomputable def lC {α:Type} (k:α→List α→Bool) (l:List α):Bool:=List.casesOn l false k
theorem lC_a {α:Type} {Q:List α→Prop} {k:α→List α→Bool} (c:∀ a r,k a r=true→Q (a::r)) (l:List α):lC k l=true→Q l:=by
 induction l using List.casesOn <;> first | exact ft | exact c _ _
theorem lN_a {α:Type} {Q:List α→Prop} (c:Q []) (l:List α):l.isEmpty=true→Q l:=by
 induction l using List.casesOn <;> first | exact ft | exact fun _=>c
theorem and2 {a b:Bool} (h:(a && b)=true):a=true∧b=true:=by simpa using h
theorem andE {a b:Bool} {G:Prop} (c:a=true→b=true→G) (h:(a && b)=true):G:=c (and2 h).1 (and2 h).2
theorem orE {a b:Bool} {G:Prop} (c:a=true→G) (d:b=true→G):(a || b)=true→G:=by
 cases a <;> first | exact d | exact fun _=>c rfl
noncomputable def l1 {α:Type} (k:α→Bool) (l:List α):Bool:=lC (fun a r=>r.isEmpty && k a) l
theorem l1_a {α:Type} {Q:List α→Prop} {k:α→Bool} (c:∀ a,k a=true→Q [a]) (l:List α):l1 k l=true→Q l:=lC_a (fun a _=>andE fun h1 h2=>lN_a (Q:=fun r=>Q (a::r)) (c a h2) _ h1) l
noncomputable def l2 {α:Type} (k:α→α→Bool) (l:List α):Bool:=lC (fun a r=>l1 (k a) r) l
theorem l2_a {α:Type} {Q:List α→Prop} {k:α→α→Bool} (c:∀ a b,k a b=true→Q [a,b]) (l:List α):l2 k l=true→Q l:=lC_a (fun a r=>l1_a (Q:=fun r=>Q (a::r)) (fun b=>c a b) r) l
noncomputable def oS {α:Type} (k:α→Bool) (o:Option α):Bool:=Option.casesOn o false k
theorem oS_a {α:Type} {Q:Option α→Prop} {k:α→Bool} (c:∀ a,k a=true→Q (some a)) (o:Option α):oS k o=true→Q o:=by
 induction o using Option.casesOn <;> first | exact ft | exact c _
noncomputable def oN {α:Type} (o:Option α):Bool:=Option.casesOn o true (k1 false)
theorem oN_a {α:Type} {Q:Option α→Prop} (c:Q none) (o:Option α):oN o=true→Q o:=by
 induction o using Option.casesOn <;> first | exact ft | exact fun _=>c
noncomputable def tnB (T:Tb) (is:List Nat):List Expr→Bool:=List.rec (fun es=>es.isEmpty) (fun i _ ih=>lC fun e es=>eN (fun x _=>nmAt T.names i x && (isLoc (slk x T.sc.names) && ih es)) e) is
noncomputable def anyS (x:Str) (l:List Str):Bool:=List.rec false (fun y _ ih=>Bool.rec ih true (sB x y)) l
theorem anyS_mem {x:Str} {l:List Str} (h:anyS x l=true):x∈l:=by
 induction l with
 | nil=>exact ft h
 | cons y l ih=>
  have h:(Bool.rec (anyS x l) true (sB x y):Bool)=true:=h
  induction q:sB x y using Bool.casesOn with
  | true=>rw [sB_eq q]; exact .head _
  | false=>rw [q] at h; exact .tail _ (ih h)
noncomputable def isK (b:Bool) (k:NameKind):Bool:=NameKind.casesOn k (!b) false b false false
noncomputable def frOf (l:List (Str×NameKind)):Option Str:=List.casesOn l none fun a l=>List.casesOn l none fun b l=>List.casesOn l none fun c l=>Bool.rec none (some c.1) (b3 (b3 (isK false a.2) (isK false b.2) (isK true c.2)) (b3 (!sB c.1 a.1) (!sB c.1 b.1) l.isEmpty) true)
noncomputable def kB (sc:Scope) (fr:Bool) (p:Str×NameKind):Bool:=NameKind.casesOn p.2 (isLoc (slk p.1 sc.names)) false fr true true
noncomputable def kindsB (sc:Scope) (fr:Bool) (l:List (Str×NameKind)):Bool:=List.rec true (fun p _ ih=>kB sc fr p && ih) l
noncomputable def isFun (k:ScopeKind):Bool:=ScopeKind.casesOn k false true false false false false false
noncomputable def csB (T:Tb) (c:Cs):Bool:=isFun c.sc.kind && (isLoc (slk c.x c.sc.names) && (!sB c.x "__debug__" && Option.casesOn c.fr (kindsB c.sc false c.sc.names)
 (fun y=>kindsB c.sc true c.sc.names && (anyS y T.cells && !sB y "__debug__"))))
noncomputable def calG (g:G):Bool:=G.casesOn g (k1 true) (k1 true) (k1 true) (k1 false) (k1 false)
noncomputable def calB (g:Nat):Bool:=Option.casesOn (glbT.get g) false calG
noncomputable def isList (e:Expr):Bool:=Nat.beq (tg e) 24 || Nat.beq (tg e) 25
noncomputable def noSwap (et ea:Expr):Bool:=!(isList et && isList ea)
noncomputable def swB (T:Tb) (y:Str) (py:Pos):Expr→Bool:=eG fun _ _ sc pos=>isFun T.sc.kind && (isLoc (slk y T.sc.names) && ((py.line == pos.line) && !(sc.names.any fun (n,k)=>n == y && (k == .local || k == .cell))))
noncomputable def shNeg (s:Sh):Sh:=Sh.casesOn s .no .no .no .no .neg (k1 .no) (k1 .no) (k1 .no)
noncomputable def shCons (s:Sh):Sh:=Sh.casesOn s .no .one .no .no (k1 .no) (k1 .no) (k1 .no) (k1 .no)
noncomputable def isI (s:Sh):Bool:=Sh.casesOn s false false false false (k1 true) (k1 false) (k1 false) (k1 false)
noncomputable def is1 (s:Sh):Bool:=Sh.casesOn s false false true false (k1 false) (k1 false) (k1 false) (k1 false)
noncomputable def isNil (s:Sh):Bool:=Sh.casesOn s false true false false (k1 false) (k1 false) (k1 false) (k1 false)
noncomputable def is0 (s:Sh):Bool:=Sh.casesOn s false false false true (k1 false) (k1 false) (k1 false) (k1 false)
noncomputable def shI (k:Nat→Bool) (s:Sh):Bool:=Sh.casesOn s false false false false (fun i=>Int.casesOn i k (k1 false)) (k1 false) (k1 false) (k1 false)
noncomputable def shM (s:Sh):Bool:=Sh.casesOn s false false false false (k1 false) (fun i=>iB 1 i) (k1 false) (k1 false)
noncomputable def shG (k:Nat→Bool) (s:Sh):Bool:=Sh.casesOn s false false false false (k1 false) (k1 false) k (k1 false)
noncomputable def shT (k:Nat→Bool) (s:Sh):Bool:=Sh.casesOn s false false false false (k1 false) (k1 false) (k1 false) k
noncomputable def shOk (s:Sh) (x:X):Prop:=Sh.casesOn (motive:=fun _=>Prop) s True (x=.nil) (∃ e,x=.cons e .nil) (x=.none) (fun i=>x=.int i) (fun i=>x=.neg (.int i)) (fun g=>x=.glb g) (fun i=>x=.tname i)
noncomputable def fBin (op:Nat) (f g:Expr→Bool):Expr→Bool:=eB fun a o b=>opB op o && (f a && g b)
noncomputable def fAttr (x:Str) (f:Expr→Bool):Expr→Bool:=eA fun a n _=>plainBase a && (sB n x && f a)
noncomputable def fUn (n:Bool) (f g:Expr→Bool):Expr→Bool:=eU fun o a=>uB n o && (f a && g a)
noncomputable def fBo (n:Bool) (f:List Expr→Bool):Expr→Bool:=eO fun o vs=>oB n o && f vs
noncomputable def fOne (n:Bool) (f g:Expr→Bool) (o:BoolOp) (es:List Expr):Bool:=oB n o && l1 (fun e=>f e && g e) es
noncomputable def fTwo (n:Bool) (f g:Expr→Bool) (k:BoolOp→List Expr→Bool) (o:BoolOp) (es:List Expr):Bool:=oB n o && lC (fun e r=>lC (fun e2 q=>f e && (g e && k o (e2::q))) r) es
noncomputable def fCmp (op:Nat) (f g:Expr→Bool):Expr→Bool:=eC fun a os bs=>l1 (fun o=>l1 (fun b=>cmB op o && (noSet b && (f a && g b))) bs) os
noncomputable def fChain (o1 o2:Nat) (f g k:Expr→Bool):Expr→Bool:=eC fun a os bs=>l2 (fun p q=>l2 (fun b c=>cmB o1 p && (cmB o2 q && (noSet c && (f a && (g b && k c))))) bs) os
noncomputable def fIf (f g k:Expr→Bool):Expr→Bool:=eI fun c a b=>f c && (g a && k b)
noncomputable def fSub (f g:Expr→Bool):Expr→Bool:=eS fun a i=>noSlice i && (f a && g i)
noncomputable def fOI (i:Nat):Option Expr→Bool:=oS (eK (cInt (.ofNat i)))
noncomputable def fOM:Option Expr→Bool:=oS (eU fun o a=>uB false o && eK (cInt (.ofNat 1)) a)
noncomputable def fSl (lo hi st:Sh) (l u t:Option Expr):Bool:=
 ((is0 lo && is0 st) && (oN l && (oN t && shI (fun i=>fOI i u) hi))) || (((is0 hi && is0 st) && (oN u && (oN t && shI (fun i=>fOI i l) lo))) ||
 ((is0 st && (oN t && shI (fun i=>shI (fun j=>fOI i l && fOI j u) hi) lo)) || ((is0 lo && is0 hi) && (shM st && (oN l && (oN u && fOM t))))))
noncomputable def fSlice (f:Expr→Bool) (lo hi st:Sh):Expr→Bool:=eS fun a i=>f a && eZ (fSl lo hi st) i
noncomputable def fCall (f:Expr→Bool) (g:List Expr→Bool):Expr→Bool:=eF fun ef es ks _=>ks.isEmpty && (!isAttr ef && (f ef && g es))
noncomputable def fMeth (x:Str) (f:Expr→Bool) (g:List Expr→Bool):Expr→Bool:=eF fun ef es ks pos=>ks.isEmpty && (Nat.blt es.length 30 && (g es && eA (fun eo a apos=>plainBase eo && (sB a x && ((apos.endLine == pos.line) && f eo))) ef))
noncomputable def fComp (f:Expr→Bool) (hd:Scope→Str→Bool) (g:Scope→Str→Expr→Bool) (k:Scope→Str→List Expr→Bool):Expr→Bool:=eG fun ee gs sc _=>l1 (fun c=>eN (fun y _=>iB 0 c.is_async && (noSet c.iter && (hd sc y && (f c.iter && (g sc y ee && k sc y c.ifs))))) c.target) gs
noncomputable def fCons (f:Expr→Bool) (k:List Expr→Bool):List Expr→Bool:=lC fun e es=>noStar e && (f e && k es)
noncomputable def fKey (f:Expr→Bool) (k:List (Option Expr)→Bool):List (Option Expr)→Bool:=lC fun o ks=>oS (fun e=>f e && k ks) o
noncomputable def fVal (f:Expr→Bool) (k:List Expr→Bool):List Expr→Bool:=lC fun e es=>f e && k es
noncomputable def fAttrT (x:Str) (f:Expr→Bool):Expr→Bool:=eA fun a n _=>sB n x && f a
noncomputable def fAug (op:Nat) (g:Str→Bool) (f:Expr→Bool):Stmt→Bool:=sU fun t o ea=>eN (fun x _=>g x && (opB op o && f ea)) t
noncomputable def fRet (z:Sh) (f:Expr→Bool):Stmt→Bool:=sR fun o=>Option.casesOn o (is0 z) f
noncomputable def fIfS (f:Expr→Bool) (g k:List Stmt→Bool):Stmt→Bool:=sI fun c a b=>f c && (g a && k b)
noncomputable def fFor (t f:Expr→Bool) (g:List Stmt→Bool):Stmt→Bool:=sF fun et ei sts el=>el.isEmpty && (noSet ei && (t et && (f ei && g sts)))
noncomputable def fSs (f:Stmt→Bool) (g:List Stmt→Bool):List Stmt→Bool:=lC fun s r=>f s && g r
noncomputable def fLocC (T:Tb) (i:Nat) (c:Cs) (y:Str):Bool:=Bool.rec (oS (fun f=>nmAt T.names i y && sB y f) c.fr) (sB y c.x) (Nat.beq i c.ix)
noncomputable def fAsC (T:Tb) (z:Sh) (f:Expr→Bool) (et ea:Expr):Bool:=shT (fun iy=>eN (fun y py=>nmAt T.names iy y && (f ea && swB T y py ea)) et) z
noncomputable def fLoc (T:Tb) (i:Nat) (x:Str):Bool:=nmAt T.names i x && isLoc (slk x T.sc.names)
noncomputable def fPw (mr:Mt) (me:Mt) (n:Nat) (ks:List (Option Expr)) (vs:List Expr):Bool:=Bool.rec (mr.pw (Nat.sub n 1) ks vs) (isI me.z && (is1 mr.z && (ks.isEmpty && mr.pv ks vs))) (Nat.beq n 0)
noncomputable def mCons (me mr:Mt):Mt:={ Mt.no with
  es:=fCons me.e mr.es,
  cs:=fun c=>fCons (me.c c) (mr.cs c),
  p:=fun ks vs=>fKey me.e (fun ks=>mr.pv ks vs) ks,
  pv:=fun ks vs=>fVal me.e (fun vs=>mr.p ks vs) vs,
  pt:=fun n ks vs=>fKey me.e (fun ks=>fPw mr me n ks vs) ks,
  pw:=fun n ks vs=>fVal me.e (fun vs=>mr.pt n ks vs) vs,
  z:=shCons mr.z }
noncomputable def mBool (v:Bool):Mt:={ Mt.no with e:=eK (cBool v),cq:=fun _ es=>v && es.isEmpty }
noncomputable def mCmp (op:Nat) (ma mb:Mt):Mt:={ Mt.no with e:=fCmp op ma.e mb.e,b:=fCmp op ma.e mb.e,cq:=fun c=>l1 (fCmp op (ma.c c) (mb.c c)) }
noncomputable def mNil:Mt:={ Mt.no with es:=fun es=>es.isEmpty,cs:=fun _ es=>es.isEmpty,p:=fun ks vs=>ks.isEmpty && vs.isEmpty,z:=.nil }
noncomputable def mComp (T:Tb) (ix:Nat) (me mi mc:Mt):Mt:=
 let k:=fComp mi.e (fun sc y=>csB T ⟨sc,y,ix,frOf sc.names⟩) (fun sc y=>me.c ⟨sc,y,ix,frOf sc.names⟩) (fun sc y=>mc.cq ⟨sc,y,ix,frOf sc.names⟩)
 { Mt.no with e:=k,k:=k }
noncomputable def mDct (mk:Mt) (ks:List (Option Expr)) (vs:List Expr):Bool:=Bool.rec (Bool.rec (mk.pt 17 ks vs) (mk.p ks vs) (Nat.ble ks.length 15)) (isNil mk.z && vs.isEmpty) ks.isEmpty
noncomputable def mAsgn (T:Tb) (mt me:Mt) (et ea:Expr):Bool:=Bool.rec (fAsC T mt.z me.k et ea) (noSwap et ea && (noStar et && (mt.t et && me.e ea))) (noComp ea || subT et)
noncomputable def mGlb (T:Tb) (g:Nat):Expr→Bool:=eN fun x _=>sB x (T.gn g) && (isGlo (slk x T.sc.names) && !sB x "__debug__")
noncomputable def mCall (f m:Mt):Expr→Bool:=fun ex=>shG calB f.z && fCall f.e m.es ex
noncomputable def mt (T:Tb) (x:X):Mt:=X.rec (motive:=fun _=>Mt)
 (mM (eK cNone) nE (fun _=>eK cNone) .none)
 (fun v=>mBool v)
 (fun i=>mM (eK (cInt i)) nE (fun _=>eK (cInt i)) (.int i))
 (fun k=>mM (eK (cStr (T.nm k))) nE (fun _=>eK (cStr (T.nm k))) .no)
 (fun i=>mM (eN fun x _=>nmAt T.names i x) (pE (eN fun x _=>nmAt T.names i x)) (fun c=>eN fun x _=>fLocC T i c x) .no)
 (fun g=>mM (mGlb T g) (pE (mGlb T g)) nC (.glb g))
 (fun _ k m=>mM (fAttr (T.nm k) m.e) (pE (fAttr (T.nm k) m.e)) (fun c=>fAttr (T.nm k) (m.c c)) .no)
 (fun op _ _ ma mb=>mM (fBin op ma.e mb.e) nE (fun c=>fBin op (ma.c c) (mb.c c)) .no)
 (fun _ m=>mM (fUn true m.e m.b) (fUn true m.e m.b) nC .no)
 (fun _ m=>mM (fUn false m.e m.e) nE nC (shNeg m.z))
 (fun _ m=>mM (fBo true (m.l .And)) (fBo true (m.l .And)) nC .no)
 (fun _ m=>mM (fBo false (m.l .Or)) (fBo false (m.l .Or)) nC .no)
 (fun _ m=>mL (fOne true m.e m.b))
 (fun _ _ m r=>mL (fTwo true m.e m.b r.l))
 (fun _ m=>mL (fOne false m.e m.b))
 (fun _ _ m r=>mL (fTwo false m.e m.b r.l))
 (fun op _ _ ma mb=>mCmp op ma mb)
 (fun o1 o2 _ _ _ ma mb mc=>mM (fChain o1 o2 ma.e mb.e mc.e) (fChain o1 o2 ma.e mb.e mc.e) nC .no)
 (fun _ _ _ mc ma mb=>mM (fIf mc.b ma.e mb.e) nE nC .no)
 (fun _ m=>mM (eT m.es) nE (fun c=>eT (m.cs c)) .no)
 (fun _ m=>mM (eL m.es) nE nC .no)
 (fun _ _ m _=>mM (eD (mDct m)) nE nC .no)
 (fun _ _ ma mi=>mM (fSub ma.e mi.e) nE (fun c=>fSub (ma.c c) (mi.c c)) .no)
 (fun _ _ _ _ ma ml mh ms=>mM (fSlice ma.e ml.z mh.z ms.z) nE nC .no)
 (fun _ _ mf ms=>mM (mCall mf ms) (pE (mCall mf ms)) nC .no)
 (fun _ k _ mo ms=>mM (fMeth (T.nm k) mo.e ms.es) (pE (fMeth (T.nm k) mo.e ms.es)) nC .no)
 (fun _ ix _ _ me mi mc=>mComp T ix me mi mc)
 mNil
 (fun _ _ me mr=>mCons me mr)
 (fun i=>mT (eN fun x _=>fLoc T i x) (.tn i))
 (fun _ k m=>mT (fAttrT (T.nm k) m.e) .no)
 (fun _ _ ma mi=>mT (fSub ma.e mi.e) .no)
 (fun xs=>mT (eT (tnB T xs)) .no)
 (fun _ _ mt me=>mS (sA fun ts ea _=>l1 (fun et=>mAsgn T mt me et ea) ts))
 (fun i op _ m=>mS (fAug op (fLoc T i) m.e))
 (fun _ m=>mS (sE fun ea=>noComp ea && m.e ea))
 (fun _ m=>mS (fRet m.z m.e))
 (fun _ _ _ mc ma mb=>mS (fIfS mc.b ma.ss mb.ss))
 (fun _ _ _ mt mi mb=>mS (fFor mt.t mi.e mb.ss))
 (mS (sP true))
 (mS fun _=>true)
 { Mt.no with ss:=fun sts=>sts.isEmpty }
 (fun _ _ m r=>{ Mt.no with ss:=fSs m.s r.ss }) x
end
end Mine
namespace Mine
variable {P:Pm} {C:Cx} {W W' W0:Wd} {h h' h0:Hp} {env:List V} {s:Shared} {d n:Nat} {cf:CF} {T:Tb}
structure Fx (P:Pm) (T:Tb) (C:Cx):Prop where
 nm:T.nm=P.nm
 gn:∀ g q,glbT.get g=some q→GName P g (T.gn g)
 cw:∀ g,calB g=true→CW P (P.gv g)
 names:C.names=T.names
 sc:C.cs=T.sc
 cells:∀ y∈T.cells,∃ c,C.cl.lookup y=some c
noncomputable def ClOk (C:Cx) (c:Cs) (cl:List (Str×Addr)):Prop:=match c.fr with
 | none=>True
 | some y=>∃ a,cl.lookup y=some a∧C.cl.lookup y=some a∧c.sc.names.lookup y=some .free∧(y == ("__debug__":Str))=false
theorem not1 {a:Bool} (h:(!a)=true):a=false:=by simpa using h
theorem sB_ne {a b:Str} (h:(!sB a b)=true):(a == b)=false:=by rw [← sB_iff]; exact not1 h
theorem cl_none (ok:C.Ok P d) (F:Fx P T C) {x:Str} (h:isLoc (slk x T.sc.names)=true):C.cl.lookup x=none:=by
 induction q:C.cl.lookup x using Option.casesOn with
 | none=>rfl
 | some c=>
  have:=ok.cel x c q
  rw [F.sc,← slk_eq,isLoc_eq h] at this
  cases this
theorem loc_slot (ok:C.Ok P d) (F:Fx P T C) {i:Nat} {x:Str} (h:fLoc T i x=true):C.names[i]?=some x∧C.cl.lookup x=none:=
 ⟨by rw [F.names]; exact nmAt_eq (and2 h).1,cl_none ok F (and2 h).2⟩
theorem tn_ok (ok:C.Ok P d) (F:Fx P T C) {is:List Nat}:∀ es,tnB T is es=true→TNs C.cl C.names is es:=by
 induction is with
 | nil=>exact lN_a .nil
 | cons i is ih=>
  exact lC_a fun e es=>eN_a (Q:=fun e=>TNs C.cl C.names (i::is) (e::es)) (fun x p=>andE fun h1=>andE fun h2 h3=>.cons (by rw [F.names]; exact nmAt_eq h1) (cl_none ok F h2) (ih es h3)) e
noncomputable def QE (P:Pm) (C:Cx) (cf:CF) (x:X) (ex:Expr):Prop:=∀ z,SndE P C (fun env h=>sem x cf z env h) ex
noncomputable def QB (P:Pm) (C:Cx) (cf:CF) (x:X) (ex:Expr):Prop:=∀ z,SndB P C (fun env h=>sem x cf z env h) ex
noncomputable def QS (P:Pm) (C:Cx) (cf:CF) (x:X) (st:Stmt):Prop:=∀ z,SndS P C (fun env h=>sem x cf z env h) st
noncomputable def QSs (P:Pm) (C:Cx) (cf:CF) (x:X) (sts:List Stmt):Prop:=∀ z,SndSs P C (fun env h=>sem x cf z env h) sts
noncomputable def QT (P:Pm) (C:Cx) (cf:CF) (x:X) (ex:Expr):Prop:=SndT P C (fun z env h=>sem x cf z env h) ex
noncomputable def QEs (P:Pm) (C:Cx) (cf:CF) (x:X) (es:List Expr):Prop:=es.all noStar=true∧∀ z,SndEs P C (fun env h=>sem x cf z env h) es
noncomputable def QL (P:Pm) (C:Cx) (cf:CF) (x:X) (op:BoolOp) (es:List Expr):Prop:=es≠[]∧∀ z,SndL P C op (fun env h=>sem x cf z env h) es
noncomputable def QC (P:Pm) (C:Cx) (T:Tb) (cf:CF) (x:X) (c:Cs) (ex:Expr):Prop:=csB T c=true→∀ cl,ClOk C c cl→∀ z,EltS P C c.sc cl c.x c.ix (fun env h=>sem x cf z env h) ex
noncomputable def QCs (P:Pm) (C:Cx) (T:Tb) (cf:CF) (x:X) (c:Cs) (es:List Expr):Prop:=csB T c=true→∀ cl,ClOk C c cl→∀ z,EltSs P C c.sc cl c.x c.ix (fun env h=>sem x cf z env h) es
noncomputable def QCq (P:Pm) (C:Cx) (T:Tb) (cf:CF) (x:X) (c:Cs) (es:List Expr):Prop:=csB T c=true→∀ cl,ClOk C c cl→∀ z,TstS P C c.sc cl c.x c.ix (fun env h=>sem x cf z env h) es
noncomputable def QPt (P:Pm) (C:Cx) (cf:CF) (x:X) (n:Nat) (ks:List (Option Expr)) (vs:List Expr):Prop:=∃ kt vt ks1 vs1 ek ev,ks=ks1 ++ [some ek]∧vs=vs1 ++ [ev]∧ks1.length=n∧(∃ i,kt=.int i)∧∀ z,PrsT P C cf z (.cons kt (.cons vt .nil)) x ks1 vs1∧SndE P C (fun env h=>sem kt cf z env h) ek∧SndE P C (fun env h=>sem vt cf z env h) ev
noncomputable def QPv (P:Pm) (C:Cx) (cf:CF) (x:X) (ks:List (Option Expr)) (vs:List Expr):Prop:=∃ v r ev vs',x=.cons v r∧vs=ev::vs'∧∀ z,SndE P C (fun env h=>sem v cf z env h) ev∧Prs P C cf z r ks vs'
noncomputable def QPw (P:Pm) (C:Cx) (cf:CF) (x:X) (n:Nat) (ks:List (Option Expr)) (vs:List Expr):Prop:=∃ v r ev vs',x=.cons v r∧vs=ev::vs'∧(∀ z,SndE P C (fun env h=>sem v cf z env h) ev)∧QPt P C cf r n ks vs'
noncomputable def QK (P:Pm) (C:Cx) (cf:CF) (x:X) (ex:Expr):Prop:=∀ (z:V) (iy:Nat) (yy:Str) (pyy spos:Pos),C.names[iy]?=some yy→C.cl.lookup yy=none→swapsWith ex (some (.Name yy pyy)) spos.line C.env=pure true→SndS P C (fun env h=>cAsgn (cName iy) (sem x) cf z env h) (.Assign [.Name yy pyy] ex spos)
structure SndM (P:Pm) (C:Cx) (T:Tb) (cf:CF) (x:X) (m:Mt):Prop where
 e:∀ ex,m.e ex=true→QE P C cf x ex
 b:∀ ex,m.b ex=true→QB P C cf x ex
 es:∀ es,m.es es=true→QEs P C cf x es
 p:∀ ks vs,m.p ks vs=true→∀ z,Prs P C cf z x ks vs
 pv:∀ ks vs,m.pv ks vs=true→QPv P C cf x ks vs
 pt:∀ n ks vs,m.pt n ks vs=true→QPt P C cf x n ks vs
 pw:∀ n ks vs,m.pw n ks vs=true→QPw P C cf x n ks vs
 l:∀ op es,m.l op es=true→QL P C cf x op es
 t:∀ ex,m.t ex=true→QT P C cf x ex
 s:∀ st,m.s st=true→QS P C cf x st
 ss:∀ sts,m.ss sts=true→QSs P C cf x sts
 c:∀ c ex,m.c c ex=true→QC P C T cf x c ex
 cs:∀ c es,m.cs c es=true→QCs P C T cf x c es
 cq:∀ c es,m.cq c es=true→QCq P C T cf x c es
 k:∀ ex,m.k ex=true→QK P C cf x ex
 z:shOk m.z x
theorem SndM.no (x:X):SndM P C T cf x Mt.no:=⟨fun _=>ft,fun _=>ft,fun _=>ft,fun _ _=>ft,fun _ _=>ft,fun _ _ _=>ft,fun _ _ _=>ft,fun _ _=>ft,fun _=>ft,fun _=>ft,fun _=>ft,fun _ _=>ft,fun _ _=>ft,fun _ _=>ft,fun _=>ft,trivial⟩
theorem s_m {x:X} {f b:Expr→Bool} {g:Cs→Expr→Bool} {z:Sh} (he:∀ ex,f ex=true→QE P C cf x ex) (hb:∀ ex,b ex=true→QB P C cf x ex) (hc:∀ c ex,g c ex=true→QC P C T cf x c ex) (hz:shOk z x):SndM P C T cf x (mM f b g z):={ SndM.no x with e:=he,b:=hb,c:=hc,z:=hz }
theorem s_l {x:X} {f:BoolOp→List Expr→Bool} (h:∀ op es,f op es=true→QL P C cf x op es):SndM P C T cf x (mL f):={ SndM.no x with l:=h }
theorem s_t {x:X} {f:Expr→Bool} {z:Sh} (h:∀ ex,f ex=true→QT P C cf x ex) (hz:shOk z x):SndM P C T cf x (mT f z):={ SndM.no x with t:=h,z:=hz }
theorem s_s {x:X} {f:Stmt→Bool} (h:∀ st,f st=true→QS P C cf x st):SndM P C T cf x (mS f):={ SndM.no x with s:=h }
theorem s_p {x:X} {f:Expr→Bool} (h:∀ ex,f ex=true→QE P C cf x ex):∀ ex,pE f ex=true→QB P C cf x ex:=fun ex=>andE fun h1 h2 z=>snd_plain (h ex h1 z) fun whole=>test_eq h2 C.env whole
theorem s_e {x:X} {f:Expr→Bool} {z:Sh} (h:∀ ex,f ex=true→QE P C cf x ex) (hz:shOk z x):SndM P C T cf x (mM f nE nC z):=s_m h (fun _=>ft) (fun _ _=>ft) hz
theorem s_q {x:X} {f:Expr→Bool} {z:Sh} (h:∀ ex,f ex=true→QE P C cf x ex) (hz:shOk z x):SndM P C T cf x (mM f (pE f) nC z):=s_m h (s_p h) (fun _ _=>ft) hz
theorem isFun_eq {k:ScopeKind}:isFun k=true→k=.function:=by
 induction k using ScopeKind.casesOn <;> first | exact ft | exact fun _=>rfl
theorem csB_v {c:Cs} (h:csB T c=true):c.sc.kind=.function∧c.sc.names.lookup c.x=some .local∧(c.x == ("__debug__":Str))=false:=
 ⟨isFun_eq (and2 h).1,slk_eq c.x _▸isLoc_eq (and2 (and2 h).2).1,sB_ne (and2 (and2 (and2 h).2).2).1⟩
theorem lookup_relabel_free {env:Env} (hk:env.scope.kind=.function) {x:Str} (hx:env.kindOf x=some .cell):∀ {names:List (Str×NameKind)},names.lookup x=some .free→
  (names.map fun (n,k)=>if (k == NameKind.free && env.scope.kind == .function && env.kindOf n == some .cell) then (n,NameKind.cell) else (n,k)).lookup x=some .cell
 | [],h=>by simp at h
 | (n,k)::r,h=>by
  have ih:=@lookup_relabel_free env hk x hx r
  show List.lookup x ((if (k == NameKind.free && env.scope.kind == .function && env.kindOf n == some .cell)=true then (n,NameKind.cell) else (n,k))::_)=_
  induction hxn:x == n using Bool.casesOn with
  | true=>
   simp only [List.lookup_cons,hxn] at h
   (obtain rfl:=Option.some.inj h)
   have e:x=n:=eq_of_beq hxn
   subst e
   rw [if_pos (by rw [hk,hx]; rfl)]
   simp [List.lookup_cons]
  | false=>
   simp only [List.lookup_cons,hxn] at h
   by_cases hc:(k == NameKind.free && env.scope.kind == .function && env.kindOf n == some .cell)=true
   ·rw [if_pos hc]; simp only [List.lookup_cons,hxn]; exact ih h
   ·rw [if_neg hc]; simp only [List.lookup_cons,hxn]; exact ih h
structure Bx (P:Pm) (T:Tb) (C:Cx) (d:Nat) (cf:CF):Prop where
 ok:C.Ok P d
 G:GOk P P.K
 CA:ClsAll P
 N:NOk P
 SC:SndCF P d cf
 F:Fx P T C
theorem sh_i {s:Sh} {x:X}:isI s=true→shOk s x→∃ i,x=.int i:=by
 induction s using Sh.casesOn <;> first | exact ft | exact fun _ h=>⟨_,h⟩
theorem sh_1 {s:Sh} {x:X}:is1 s=true→shOk s x→∃ e,x=.cons e .nil:=by
 induction s using Sh.casesOn <;> first | exact ft | exact fun _ h=>h
theorem sh_nil {s:Sh} {x:X}:isNil s=true→shOk s x→x=.nil:=by
 induction s using Sh.casesOn <;> first | exact ft | exact fun _ h=>h
theorem sh_0 {s:Sh} {x:X}:is0 s=true→shOk s x→x=.none:=by
 induction s using Sh.casesOn <;> first | exact ft | exact fun _ h=>h
theorem sh_I {k:Nat→Bool} {s:Sh} {x:X}:shI k s=true→shOk s x→∃ n,x=.int (.ofNat n)∧k n=true:=by
 induction s using Sh.casesOn with
 | int i=>induction i using Int.casesOn <;> first | exact ft | exact fun h e=>⟨_,e,h⟩
 | _=>exact ft
theorem sh_M {s:Sh} {x:X}:shM s=true→shOk s x→x=.neg (.int (.ofNat 1)):=by
 induction s using Sh.casesOn with
 | neg i=>exact fun h e=>Eq.trans e (congrArg (fun i=>X.neg (.int i)) (iB_t h).symm)
 | _=>exact ft
theorem sh_G {k:Nat→Bool} {s:Sh} {x:X}:shG k s=true→shOk s x→∃ n,x=.glb n∧k n=true:=by
 induction s using Sh.casesOn <;> first | exact ft | exact fun h e=>⟨_,e,h⟩
theorem sh_T {k:Nat→Bool} {s:Sh} {x:X}:shT k s=true→shOk s x→∃ n,x=.tname n∧k n=true:=by
 induction s using Sh.casesOn <;> first | exact ft | exact fun h e=>⟨_,e,h⟩
theorem sh_neg {s:Sh} {x:X}:shOk s x→shOk (shNeg s) (.neg x):=by
 induction s using Sh.casesOn <;> first | exact fun _=>trivial | exact fun h=>congrArg X.neg h
theorem sh_cons {s:Sh} {e x:X}:shOk s x→shOk (shCons s) (.cons e x):=by
 induction s using Sh.casesOn <;> first | exact fun _=>trivial | exact fun h=>⟨e,congrArg (X.cons e) h⟩
end Mine
namespace Mine
variable {P:Pm} {C:Cx} {W W' W0:Wd} {h h' h0:Hp} {env:List V} {s:Shared} {d n:Nat} {cf:CF} {T:Tb} {x y:X} {m ma mb mc:Mt}
section
variable {Q:Expr→Prop} {f g k:Expr→Bool}
theorem fBin_a {op:Nat} (c:∀ a b p,op≤5→f a=true→g b=true→Q (.BinOp a (opOf op) b p)):∀ ex,fBin op f g ex=true→Q ex:=
 eB_a fun a o b p=>andE fun h1=>andE fun h2 h3=>opB_a (Q:=fun o=>Q (.BinOp a o b p)) (fun h=>c a b p h h2 h3) o h1
theorem fAttr_a {x:Str} (c:∀ a p,plainBase a=true→f a=true→Q (.Attribute a x p)):∀ ex,fAttr x f ex=true→Q ex:=
 eA_a fun a n p=>andE fun h1=>andE fun h2 h3=>Eq.rec (motive:=fun n _=>Q (.Attribute a n p)) (c a p h1 h3) (sB_eq h2).symm
theorem fCmp_a {op:Nat} (c:∀ a b p,op≤9→noSet b=true→f a=true→g b=true→Q (.Compare a [cOf op] [b] p)):∀ ex,fCmp op f g ex=true→Q ex:=
 eC_a fun a os bs p=>l1_a (Q:=fun os=>Q (.Compare a os bs p)) (fun o=>l1_a (Q:=fun bs=>Q (.Compare a [o] bs p)) (fun b=>andE fun h1=>andE fun h2=>andE fun h3 h4=>cmB_a (Q:=fun o=>Q (.Compare a [o] [b] p)) (fun h=>c a b p h h2 h3 h4) o h1) bs) os
theorem fChain_a {o1 o2:Nat} (c:∀ a b e p,o1≤9→o2≤9→noSet e=true→f a=true→g b=true→k e=true→Q (.Compare a [cOf o1,cOf o2] [b,e] p)):∀ ex,fChain o1 o2 f g k ex=true→Q ex:=
 eC_a fun a os bs p=>l2_a (Q:=fun os=>Q (.Compare a os bs p)) (fun o q=>l2_a (Q:=fun bs=>Q (.Compare a [o,q] bs p)) (fun b e=>andE fun h1=>andE fun h2=>andE fun h3=>andE fun h4=>andE fun h5 h6=>
  cmB_a (Q:=fun o=>Q (.Compare a [o,q] [b,e] p)) (fun w1=>cmB_a (Q:=fun q=>Q (.Compare a [cOf o1,q] [b,e] p)) (fun w2=>c a b e p w1 w2 h3 h4 h5 h6) q h2) o h1) bs) os
theorem fSub_a (c:∀ a b p,noSlice b=true→f a=true→g b=true→Q (.Subscript a b p)):∀ ex,fSub f g ex=true→Q ex:=
 eS_a fun a b p=>andE fun h1=>andE fun h2 h3=>c a b p h1 h2 h3
theorem fUnN_a (c:∀ a p,f a=true→g a=true→Q (.UnaryOp .Not a p)):∀ ex,fUn true f g ex=true→Q ex:=
 eU_a fun o a p=>andE fun h1=>andE fun h2 h3=>uN_a (Q:=fun o=>Q (.UnaryOp o a p)) (c a p h2 h3) o h1
theorem fComp_a {hd:Scope→Str→Bool} {g:Scope→Str→Expr→Bool} {k:Scope→Str→List Expr→Bool} (c:∀ ee y py ei ifs sc pos,noSet ei=true→hd sc y=true→f ei=true→g sc y ee=true→k sc y ifs=true→Q (.ListComp ee [⟨.Name y py,ei,ifs,0⟩] sc pos)):∀ ex,fComp f hd g k ex=true→Q ex:=by
 refine eG_a fun ee gs sc pos=>l1_a (Q:=fun gs=>Q (.ListComp ee gs sc pos)) (fun q=>?_) gs
 obtain ⟨t,i,ifs,a⟩:=q
 exact eN_a (Q:=fun t=>Q (.ListComp ee [⟨t,i,ifs,a⟩] sc pos)) (fun y py=>andE fun h1=>andE fun h2=>andE fun h3=>andE fun h4=>andE fun h5 h6=>Eq.rec (motive:=fun a _=>Q (.ListComp ee [⟨.Name y py,i,ifs,a⟩] sc pos)) (c ee y py i ifs sc pos h2 h3 h4 h5 h6) (iB_t h1)) t
end
theorem fCons_a {Q:List Expr→Prop} {f:Expr→Bool} {k:List Expr→Bool} (c:∀ e es,noStar e=true→f e=true→k es=true→Q (e::es)):∀ es,fCons f k es=true→Q es:=
 lC_a fun e es=>andE fun h1=>andE fun h2 h3=>c e es h1 h2 h3
theorem fKey_a {Q:List (Option Expr)→Prop} {f:Expr→Bool} {k:List (Option Expr)→Bool} (c:∀ e es,f e=true→k es=true→Q (some e::es)):∀ es,fKey f k es=true→Q es:=
 lC_a fun o es=>oS_a (Q:=fun o=>Q (o::es)) (fun e=>andE fun h1 h2=>c e es h1 h2) o
theorem fVal_a {Q:List Expr→Prop} {f:Expr→Bool} {k:List Expr→Bool} (c:∀ e es,f e=true→k es=true→Q (e::es)):∀ es,fVal f k es=true→Q es:=
 lC_a fun e es=>andE fun h1 h2=>c e es h1 h2
theorem m_none:SndM P C T cf .none (mM (eK cNone) nE (fun _=>eK cNone) .none):=
 s_m (eK_a fun v n p=>cNone_a (Q:=fun v=>QE P C cf .none (.Constant v n p)) (fun z=>rule_none (cf:=cf) (z:=z)) v) (fun _=>ft) (fun c=>eK_a fun v n p=>cNone_a (Q:=fun v=>QC P C T cf .none c (.Constant v n p)) (fun _ cl _ z=>elt_none (cf:=cf) (z:=z)) v) rfl
theorem m_bool (v:Bool):SndM P C T cf (.bool v) (mBool v):=by
 refine { SndM.no _ with e:=eK_a fun w n p=>cBool_a (Q:=fun w=>QE P C cf (.bool v) (.Constant w n p)) (fun z=>rule_bool (cf:=cf) (z:=z)) w,cq:=fun c es=>andE fun h1 h2 _ cl _ z=>?_ }
 rw [h1]
 exact lN_a (Q:=fun es=>TstS P C c.sc cl c.x c.ix (fun env h=>sem (.bool true) cf z env h) es) (tst_nil (cf:=cf) (z:=z)) es h2
theorem m_int (i:Int):SndM P C T cf (.int i) (mM (eK (cInt i)) nE (fun _=>eK (cInt i)) (.int i)):=
 s_m (eK_a fun v n p=>cInt_a (Q:=fun v=>QE P C cf (.int i) (.Constant v n p)) (fun z=>rule_int (cf:=cf) (z:=z)) v) (fun _=>ft) (fun c=>eK_a fun v n p=>cInt_a (Q:=fun v=>QC P C T cf (.int i) c (.Constant v n p)) (fun _ cl _ z=>elt_int (cf:=cf) (z:=z)) v) rfl
theorem m_str (B:Bx P T C d cf) (i:Nat):SndM P C T cf (.str i) (mM (eK (cStr (T.nm i))) nE (fun _=>eK (cStr (T.nm i))) .no):=by
 rw [B.F.nm]
 exact s_m (eK_a fun v n p=>cStr_a (Q:=fun v=>QE P C cf (.str i) (.Constant v n p)) (fun z=>rule_str (cf:=cf) (z:=z)) v) (fun _=>ft) (fun c=>eK_a fun v n p=>cStr_a (Q:=fun v=>QC P C T cf (.str i) c (.Constant v n p)) (fun _ cl _ z=>elt_str (cf:=cf) (z:=z)) v) trivial
theorem m_loc (B:Bx P T C d cf) (i:Nat):SndM P C T cf (.loc i) (mM (eN fun x _=>nmAt T.names i x) (pE (eN fun x _=>nmAt T.names i x)) (fun c=>eN fun x _=>fLocC T i c x) .no):=by
 have he:∀ ex,eN (fun x _=>nmAt T.names i x) ex=true→QE P C cf (.loc i) ex:=eN_a fun x p h z=>rule_loc (cf:=cf) (z:=z) B.ok (by rw [B.F.names]; exact nmAt_eq h)
 refine s_m he (s_p he) (fun c=>eN_a fun y p h hc cl hcl z=>?_) trivial
 obtain ⟨c1,c2,c3⟩:=csB_v hc
 unfold fLocC at h
 induction q:Nat.beq i c.ix using Bool.casesOn with
 | true=>
  rw [q] at h
  rw [nB_eq q,sB_eq h]
  exact elt_name (cf:=cf) (z:=z) c1 c2 c3
 | false=>
  rw [q] at h
  unfold ClOk at hcl
  induction hf:c.fr using Option.casesOn with
  | none=>rw [hf] at h; exact ft h
  | some f=>
   rw [hf] at hcl h
   obtain ⟨a,l1,l2,l3,l4⟩:=hcl
   have e:=sB_eq (and2 h).2
   rw [← e] at l1 l2 l3 l4
   exact elt_free (cf:=cf) (z:=z) (fun w=>Nat.ne_of_beq_eq_false q w.symm) (by rw [B.F.names]; exact nmAt_eq (and2 h).1) l1 l2 c1 l3 l4 (lookup_relabel_free (env:=C.env) B.ok.kind (show C.env.kindOf y=_ from B.ok.cel _ _ l2) l3)
theorem m_glb (B:Bx P T C d cf) (g:Nat):SndM P C T cf (.glb g) (mM (mGlb T g) (pE (mGlb T g)) nC (.glb g)):=by
 refine s_q (eN_a fun x p=>andE fun h1=>andE fun h2 h3 z=>?_) rfl
 induction q:glbT.get g using Option.casesOn with
 | none=>
  intro W h env s v h' Q E S e g'
  have e:R.ofO (glbT.get g) (fun q=>gvV h g q)=.v v h':=e
  rw [q] at e
  exact rX e
 | some y=>exact rule_glb (cf:=cf) (z:=z) B.ok B.G (sB_eq h1▸B.F.gn g y q) (by rw [B.F.sc,← slk_eq]; exact isGlo_eq h2) (sB_ne h3)
theorem m_attr (B:Bx P T C d cf) (k:Nat) (Me:SndM P C T cf x m):SndM P C T cf (.attr x k) (mM (fAttr (T.nm k) m.e) (pE (fAttr (T.nm k) m.e)) (fun c=>fAttr (T.nm k) (m.c c)) .no):=by
 rw [B.F.nm]
 have he:∀ ex,fAttr (P.nm k) m.e ex=true→QE P C cf (.attr x k) ex:=fAttr_a fun a p h1 h2 z=>rule_attr (cf:=cf) (z:=z) B.ok B.CA (attr_eq h1 _ _ _) (Me.e a h2 z)
 exact s_m he (s_p he) (fun c=>fAttr_a fun a p h1 h2 hc cl hcl z=>elt_attr (cf:=cf) (z:=z) B.ok B.CA (fun env=>attr_eq h1 _ _ env) (Me.c c a h2 hc cl hcl z)) trivial
theorem m_bin (B:Bx P T C d cf) (op:Nat) (Ma:SndM P C T cf x ma) (Mb:SndM P C T cf y mb):SndM P C T cf (.bin op x y) (mM (fBin op ma.e mb.e) nE (fun c=>fBin op (ma.c c) (mb.c c)) .no):=
 s_m (fBin_a fun a b p ho h1 h2 z=>rule_binop (cf:=cf) (z:=z) B.ok ho (Ma.e a h1 z) (Mb.e b h2 z)) (fun _=>ft) (fun c=>fBin_a fun a b p ho h1 h2 hc cl hcl z=>elt_bin (cf:=cf) (z:=z) B.ok ho (Ma.c c a h1 hc cl hcl z) (Mb.c c b h2 hc cl hcl z)) trivial
theorem m_not (Ma:SndM P C T cf x m):SndM P C T cf (.not x) (mM (fUn true m.e m.b) (fUn true m.e m.b) nC .no):=
 s_m (fUnN_a fun a p h1 h2 z=>(rule_not (cf:=cf) (z:=z) (Ma.e a h1 z) (Ma.b a h2 z)).1) (fUnN_a fun a p h1 h2 z=>(rule_not (cf:=cf) (z:=z) (Ma.e a h1 z) (Ma.b a h2 z)).2) (fun _ _=>ft) trivial
theorem m_neg (Ma:SndM P C T cf x m):SndM P C T cf (.neg x) (mM (fUn false m.e m.e) nE nC (shNeg m.z)):=
 s_e (eU_a fun o a p=>andE fun h1=>andE fun h2 _=>uS_a (Q:=fun o=>QE P C cf (.neg x) (.UnaryOp o a p)) (fun z=>rule_neg (cf:=cf) (z:=z) (Ma.e a h2 z)) o h1) (sh_neg Ma.z)
theorem m_and (Mr:SndM P C T cf x m):SndM P C T cf (.and x) (mM (fBo true (m.l .And)) (fBo true (m.l .And)) nC .no):=
 s_m (eO_a fun o es p=>andE fun h1 h2=>oA_a (Q:=fun o=>QE P C cf (.and x) (.BoolOp o es p)) (fun z=>((Mr.l .And es h2).2 z).1 p) o h1)
  (eO_a fun o es p=>andE fun h1 h2=>oA_a (Q:=fun o=>QB P C cf (.and x) (.BoolOp o es p)) (fun z W h env s b h' Q E S e g=>((Mr.l .And es h2).2 z).2 W h env s b h' p _ Q E S e g) o h1) (fun _ _=>ft) trivial
theorem m_or (Mr:SndM P C T cf x m):SndM P C T cf (.or x) (mM (fBo false (m.l .Or)) (fBo false (m.l .Or)) nC .no):=
 s_m (eO_a fun o es p=>andE fun h1 h2=>oO_a (Q:=fun o=>QE P C cf (.or x) (.BoolOp o es p)) (fun z=>((Mr.l .Or es h2).2 z).1 p) o h1)
  (eO_a fun o es p=>andE fun h1 h2=>oO_a (Q:=fun o=>QB P C cf (.or x) (.BoolOp o es p)) (fun z W h env s b h' Q E S e g=>((Mr.l .Or es h2).2 z).2 W h env s b h' p _ Q E S e g) o h1) (fun _ _=>ft) trivial
theorem m_ande (Ma:SndM P C T cf x m):SndM P C T cf (.ande x) (mL (fOne true m.e m.b)):=
 s_l fun o es=>andE fun h1 h2=>oA_a (Q:=fun o=>QL P C cf (.ande x) o es) (l1_a (fun e=>andE fun h3 h4=>And.intro nofun fun z=>rule_and1 (Ma.e e h3 z) (Ma.b e h4 z)) es h2) o h1
theorem m_ore (Ma:SndM P C T cf x m):SndM P C T cf (.ore x) (mL (fOne false m.e m.b)):=
 s_l fun o es=>andE fun h1 h2=>oO_a (Q:=fun o=>QL P C cf (.ore x) o es) (l1_a (fun e=>andE fun h3 h4=>And.intro nofun fun z=>rule_or1 (Ma.e e h3 z) (Ma.b e h4 z)) es h2) o h1
theorem m_andc (Ma:SndM P C T cf x ma) (Mr:SndM P C T cf y mb):SndM P C T cf (.andc x y) (mL (fTwo true ma.e ma.b mb.l)):=by
 refine s_l fun o es=>?_
 induction o using BoolOp.casesOn with
 | And=>exact fun h=>lC_a (Q:=QL P C cf (.andc x y) .And) (fun e r=>lC_a (Q:=fun r=>QL P C cf (.andc x y) .And (e::r)) (fun e2 q=>andE fun h1=>andE fun h2 h3=>And.intro nofun fun z=>rule_and (cf:=cf) (z:=z) (Ma.e e h1 z) (Ma.b e h2 z) ((Mr.l .And _ h3).2 z)) r) es (and2 h).2
 | Or=>exact ft
theorem m_orc (Ma:SndM P C T cf x ma) (Mr:SndM P C T cf y mb):SndM P C T cf (.orc x y) (mL (fTwo false ma.e ma.b mb.l)):=by
 refine s_l fun o es=>?_
 induction o using BoolOp.casesOn with
 | Or=>exact fun h=>lC_a (Q:=QL P C cf (.orc x y) .Or) (fun e r=>lC_a (Q:=fun r=>QL P C cf (.orc x y) .Or (e::r)) (fun e2 q=>andE fun h1=>andE fun h2 h3=>And.intro nofun fun z=>rule_or (cf:=cf) (z:=z) (Ma.e e h1 z) (Ma.b e h2 z) ((Mr.l .Or _ h3).2 z)) r) es (and2 h).2
 | And=>exact ft
theorem m_cmp (B:Bx P T C d cf) (op:Nat) (Ma:SndM P C T cf x ma) (Mb:SndM P C T cf y mb):SndM P C T cf (.cmp op x y) (mCmp op ma mb):=
 { SndM.no _ with
  e:=fCmp_a fun a b p ho h1 h2 h3 z=>(rule_cmp (cf:=cf) (z:=z) B.ok B.G ho (behind_eq h1) (Ma.e a h2 z) (Mb.e b h3 z)).1
  b:=fCmp_a fun a b p ho h1 h2 h3 z=>(rule_cmp (cf:=cf) (z:=z) B.ok B.G ho (behind_eq h1) (Ma.e a h2 z) (Mb.e b h3 z)).2
  cq:=fun c=>l1_a fun e=>fCmp_a (Q:=fun e=>QCq P C T cf (.cmp op x y) c [e]) (fun a b p ho h1 h2 h3 hc cl hcl z=>tst_cmp (cf:=cf) (z:=z) B.ok B.G ho (behind_eq h1) (Ma.c c a h2 hc cl hcl z) (Mb.c c b h3 hc cl hcl z)) e }
theorem m_chain (B:Bx P T C d cf) (o1 o2:Nat) {k:X} (Ma:SndM P C T cf x ma) (Mb:SndM P C T cf y mb) (Mk:SndM P C T cf k mc):SndM P C T cf (.chain o1 o2 x y k) (mM (fChain o1 o2 ma.e mb.e mc.e) (fChain o1 o2 ma.e mb.e mc.e) nC .no):=
 s_m (fChain_a fun a b e p q1 q2 h1 h2 h3 h4 z=>(rule_chain (cf:=cf) (z:=z) B.ok B.G q1 q2 (behind_eq (op:=cOf o2) h1) (Ma.e a h2 z) (Mb.e b h3 z) (Mk.e e h4 z)).1)
  (fChain_a fun a b e p q1 q2 h1 h2 h3 h4 z=>(rule_chain (cf:=cf) (z:=z) B.ok B.G q1 q2 (behind_eq (op:=cOf o2) h1) (Ma.e a h2 z) (Mb.e b h3 z) (Mk.e e h4 z)).2) (fun _ _=>ft) trivial
theorem m_ite {c:X} (Mc:SndM P C T cf c mc) (Ma:SndM P C T cf x ma) (Mb:SndM P C T cf y mb):SndM P C T cf (.ite c x y) (mM (fIf mc.b ma.e mb.e) nE nC .no):=
 s_e (eI_a fun c a b p=>andE fun h1=>andE fun h2 h3 z=>rule_ite (cf:=cf) (z:=z) (Mc.b c h1 z) (Ma.e a h2 z) (Mb.e b h3 z)) trivial
theorem m_tup (Ma:SndM P C T cf x m):SndM P C T cf (.tup x) (mM (eT m.es) nE (fun c=>eT (m.cs c)) .no):=
 s_m (eT_a fun es k p h z=>rule_tup (cf:=cf) (z:=z) ((Ma.es es h).2 z)) (fun _=>ft) (fun c=>eT_a fun es k p h hc cl hcl z=>elt_tup (cf:=cf) (z:=z) (Ma.cs c es h hc cl hcl z)) trivial
theorem m_lst (Ma:SndM P C T cf x m):SndM P C T cf (.lst x) (mM (eL m.es) nE nC .no):=
 s_e (eL_a fun es p h z=>rule_lst (cf:=cf) (z:=z) ((Ma.es es h).2 z)) trivial
theorem m_dct (B:Bx P T C d cf) {vs:X} (Mk:SndM P C T cf x m):SndM P C T cf (.dct x vs) (mM (eD (mDct m)) nE nC .no):=by
 refine s_e (eD_a fun es ws p h z=>?_) trivial
 have h:(Bool.rec (Bool.rec (m.pt 17 es ws) (m.p es ws) (Nat.ble es.length 15)) (isNil m.z && ws.isEmpty) es.isEmpty:Bool)=true:=h
 induction q:es.isEmpty using Bool.casesOn with
 | true=>
  rw [q] at h
  rw [sh_nil (and2 h).1 Mk.z]
  refine lN_a (Q:=fun es=>SndE P C _ (.Dict es ws p)) ?_ es q
  exact lN_a (Q:=fun ws=>SndE P C _ (.Dict [] ws p)) (rule_dct0 (cf:=cf) (z:=z)) ws (and2 h).2
 | false=>
  rw [q] at h
  induction q2:Nat.ble es.length 15 using Bool.casesOn with
  | true=>
   rw [q2] at h
   exact rule_dct (cf:=cf) (z:=z) B.ok (Mk.p es ws h z) (fun w=>tf (q▸congrArg List.isEmpty w.symm)) (Nat.le_of_ble_eq_true q2)
  | false=>
   rw [q2] at h
   obtain ⟨kt,vt,ks1,vs1,ek,ev,rfl,rfl,hl,⟨i,rfl⟩,k⟩:=Mk.pt 17 es ws h
   obtain ⟨k1,k2,k3⟩:=k z
   exact rule_dct18 (cf:=cf) (z:=z) B.ok k1 hl k2 k3 fun env h a h1 e=>by rw [← (R.v.inj e).1]; rfl
theorem m_sub (B:Bx P T C d cf) (Ma:SndM P C T cf x ma) (Mb:SndM P C T cf y mb):SndM P C T cf (.sub x y) (mM (fSub ma.e mb.e) nE (fun c=>fSub (ma.c c) (mb.c c)) .no):=
 s_m (fSub_a fun a b p h1 h2 h3 z=>rule_sub (cf:=cf) (z:=z) B.ok (fun o i=>sub_eq h1 o i) (Ma.e a h2 z) (Mb.e b h3 z)) (fun _=>ft)
  (fun c=>fSub_a fun a b p h1 h2 h3 hc cl hcl z=>elt_sub (cf:=cf) (z:=z) B.ok (fun o i=>sub_eq h1 o i) (Ma.c c a h2 hc cl hcl z) (Mb.c c b h3 hc cl hcl z)) trivial
theorem fOI_a {Q:Option Expr→Prop} {i:Nat} (c:∀ k p,Q (some (.Constant (.int (.ofNat i)) k p))):∀ o,fOI i o=true→Q o:=
 oS_a fun e=>eK_a (Q:=fun e=>Q (some e)) (fun v k p=>cInt_a (Q:=fun v=>Q (some (.Constant v k p))) (c k p) v) e
theorem fOM_a {Q:Option Expr→Prop} (c:∀ k p q,Q (some (.UnaryOp .USub (.Constant (.int (.ofNat 1)) k p) q))):∀ o,fOM o=true→Q o:=
 oS_a fun e=>eU_a (Q:=fun e=>Q (some e)) (fun o a q=>andE fun h1 h2=>uS_a (Q:=fun o=>Q (some (.UnaryOp o a q))) (eK_a (Q:=fun a=>Q (some (.UnaryOp .USub a q))) (fun v k p=>cInt_a (Q:=fun v=>Q (some (.UnaryOp .USub (.Constant v k p) q))) (c k p q) v) a h2) o h1) e
theorem m_slice {lo hi st:X} {ml mh ms:Mt} (Ma:SndM P C T cf x m) (Ml:SndM P C T cf lo ml) (Mh:SndM P C T cf hi mh) (Ms:SndM P C T cf st ms):SndM P C T cf (.slice x lo hi st) (mM (fSlice m.e ml.z mh.z ms.z) nE nC .no):=by
 refine s_e (eS_a fun a i p=>andE fun h1=>eZ_a (Q:=fun i=>QE P C cf (.slice x lo hi st) (.Subscript a i p)) (fun l u t p'=>?_) i) trivial
 have el:=Ml.z
 have eh:=Mh.z
 have es:=Ms.z
 clear Ml Mh Ms
 refine orE (andE fun h2=>andE fun h3=>andE fun h4 h5=>?_) (orE (andE fun h2=>andE fun h3=>andE fun h4 h5=>?_) (orE (andE fun h2=>andE fun h3 h4=>?_) (andE fun h2=>andE fun h3=>andE fun h4=>andE fun h5 h6=>?_)))
 ·rw [sh_0 (and2 h2).1 el,sh_0 (and2 h2).2 es]
  obtain ⟨n,e,hn⟩:=sh_I h5 eh
  rw [e]
  refine oN_a (Q:=fun l=>QE P C cf _ (.Subscript a (.Slice l u t p') p)) (oN_a (Q:=fun t=>QE P C cf _ (.Subscript a (.Slice none u t p') p)) (fOI_a (Q:=fun u=>QE P C cf _ (.Subscript a (.Slice none u none p') p)) (fun k q z=>?_) u hn) t h4) l h3
  exact rule_upto (cf:=cf) (z:=z) (Ma.e a h1 z)
 ·rw [sh_0 (and2 h2).1 eh,sh_0 (and2 h2).2 es]
  obtain ⟨n,e,hn⟩:=sh_I h5 el
  rw [e]
  refine oN_a (Q:=fun u=>QE P C cf _ (.Subscript a (.Slice l u t p') p)) (oN_a (Q:=fun t=>QE P C cf _ (.Subscript a (.Slice l none t p') p)) (fOI_a (Q:=fun l=>QE P C cf _ (.Subscript a (.Slice l none none p') p)) (fun k q z=>?_) l hn) t h4) u h3
  exact rule_from (cf:=cf) (z:=z) (Ma.e a h1 z)
 ·rw [sh_0 h2 es]
  obtain ⟨n,e,hn⟩:=sh_I h4 el
  rw [e]
  obtain ⟨n2,e2,hn⟩:=sh_I hn eh
  rw [e2]
  refine oN_a (Q:=fun t=>QE P C cf _ (.Subscript a (.Slice l u t p') p)) (fOI_a (Q:=fun l=>QE P C cf _ (.Subscript a (.Slice l u none p') p)) (fun k q=>fOI_a (Q:=fun u=>QE P C cf _ (.Subscript a (.Slice _ u none p') p)) (fun k2 q2 z=>?_) u (and2 hn).2) l (and2 hn).1) t h3
  exact rule_mid (cf:=cf) (z:=z) (Ma.e a h1 z)
 ·rw [sh_0 (and2 h2).1 el,sh_0 (and2 h2).2 eh,sh_M h3 es]
  refine oN_a (Q:=fun l=>QE P C cf _ (.Subscript a (.Slice l u t p') p)) (oN_a (Q:=fun u=>QE P C cf _ (.Subscript a (.Slice none u t p') p)) (fOM_a (Q:=fun t=>QE P C cf _ (.Subscript a (.Slice none none t p') p)) (fun k q q2 z=>?_) t h6) u h5) l h4
  exact rule_rev (cf:=cf) (z:=z) (Ma.e a h1 z)
theorem glb_v {g g':Nat} {z:V} {env:List V} {h h1:Hp} (hc:calB g=true) (e:sem (.glb g) cf z env h=.v (.glb g') h1):g'=g:=by
 have e:R.ofO (glbT.get g) (fun q=>gvV h g q)=.v (.glb g') h1:=e
 unfold calB at hc
 induction q:glbT.get g using Option.casesOn with
 | none=>rw [q] at e; exact rX e
 | some y=>
  rw [q] at e hc
  have k:R.v (.glb g) h=R.v (.glb g') h1→g'=g:=fun e=>(V.glb.inj (R.v.inj e).1).symm
  induction y using G.casesOn <;> first | exact k e | exact ft hc
theorem m_call (B:Bx P T C d cf) (Mf:SndM P C T cf x ma) (Ma:SndM P C T cf y mb):SndM P C T cf (.call x y) (mM (mCall ma mb) (pE (mCall ma mb)) nC .no):=by
 refine s_q (fun ex=>andE fun hg h=>?_) trivial
 obtain ⟨g,rfl,hc⟩:=sh_G hg Mf.z
 refine eF_a (fun ef es ks p=>andE fun h0=>andE fun h1=>andE fun h2 h3=>lN_a (Q:=fun ks=>QE P C cf (.call (.glb g) y) (.Call ef es ks p)) (fun z=>?_) ks h0) ex h
 obtain ⟨h4,h5⟩:=Ma.es es h3
 exact rule_call (cf:=cf) (z:=z) B.ok B.SC (star_hs h4 C.env p) (call_eq (not1 h1) es p C.env) (fun env h g' h1 e=>by rw [glb_v (cf:=cf) (z:=z) (env:=env) hc e]; exact B.F.cw _ hc) (Mf.e ef h2 z) (h5 z)
theorem m_meth (B:Bx P T C d cf) (k:Nat) (Mo:SndM P C T cf x ma) (Ma:SndM P C T cf y mb):SndM P C T cf (.meth x k y) (mM (fMeth (T.nm k) ma.e mb.es) (pE (fMeth (T.nm k) ma.e mb.es)) nC .no):=by
 rw [B.F.nm]
 refine s_q (eF_a fun ef es ks pos=>andE fun h0=>andE fun h1=>andE fun h2 h3=>lN_a (Q:=fun ks=>QE P C cf (.meth x k y) (.Call ef es ks pos)) (eA_a (Q:=fun ef=>QE P C cf (.meth x k y) (.Call ef es [] pos)) (fun eo a apos=>andE fun h4=>andE fun h5=>andE fun h6 h7 z=>?_) ef h3) ks h0) trivial
 obtain ⟨w6,w7⟩:=Ma.es es h2
 rw [sB_eq h5]
 exact rule_meth (cf:=cf) (z:=z) B.ok B.CA B.G B.N B.SC (star_hs w6 C.env pos) (meth_eq h4 w6 (by rw [blt_eq] at h1; exact of_decide_eq_true h1) h6 C.env) (Mo.e eo h7 z) (w7 z)
end Mine
namespace Mine
variable {P:Pm} {C:Cx} {W W' W0:Wd} {h h' h0:Hp} {env:List V} {s:Shared} {d n:Nat} {cf:CF} {T:Tb}
theorem kB_i {sc:Scope} {fr:Bool} {p:Str×NameKind}:kB sc fr p=true→p.2≠.cell∧(p.2=.local→sc.names.lookup p.1=some .local)∧(fr=false→p.2≠.free):=by
 obtain ⟨a,k⟩:=p
 induction k using NameKind.casesOn with
 | «local»=>exact fun h=>⟨nofun,fun _=>slk_eq a _▸isLoc_eq h,fun _=>nofun⟩
 | cell=>exact ft
 | free=>exact fun h=>⟨nofun,nofun,fun w=>ft (w▸h)⟩
 | _=>exact fun _=>⟨nofun,nofun,fun _=>nofun⟩
theorem kindsB_i {sc:Scope} {fr:Bool} {l:List (Str×NameKind)} (h:kindsB sc fr l=true):∀ p∈l,p.2≠.cell∧(p.2=.local→sc.names.lookup p.1=some .local)∧(fr=false→p.2≠.free):=by
 induction l with
 | nil=>exact nofun
 | cons q l ih=>
  have w:=and2 (show (kB sc fr q && kindsB sc fr l)=true from h)
  exact List.forall_mem_cons.mpr ⟨kB_i w.1,ih w.2⟩
theorem clos_go (env:Env) {l:List (Str×NameKind)} (cs:List (Str×Addr)) (h:∀ p∈l,p.2≠.free):(forIn l cs fun x r=>do
  let r ← (match x with
   | (name,kind)=>(if (kind == .free)=true then do let c ← cellOf env name; pure (ForInStep.yield ((name,c)::r)) else pure (ForInStep.yield r)):Sem (ForInStep (List (Str×Addr))))
  pure r)=(pure cs:Sem (List (Str×Addr))):=by
 induction l with
 | nil=>rfl
 | cons p l ih=>
  obtain ⟨nm,k⟩:=p
  have hk:(k == NameKind.free)=false:=beq_eq_false_iff_ne.mpr (h _ (.head _))
  rw [List.forIn_cons]
  simp only [hk,Bool.false_eq_true,if_false,pure_bind]
  exact ih fun p hp=>h p (.tail _ hp)
theorem clos_none {scope:Scope} {env:Env} (h:∀ p∈scope.names,p.2≠.free):closureFor scope env=pure []:=by
 unfold closureFor
 have:=clos_go env [] h
 simp only [bind_pure] at this
 simp only [pure_bind,bind_pure]
 exact this
theorem clos_one {scope:Scope} {env:Env} {a b y:Str} {c:Addr} (h:scope.names=[(a,.local),(b,.local),(y,.free)]) (hc:env.cells.lookup y=some c):closureFor scope env=pure [(y,c)]:=by
 have e:cellOf env y=pure c:=by unfold cellOf; rw [hc]
 unfold closureFor
 rw [h]
 have h1:(NameKind.local == NameKind.free)=false:=rfl
 have h2:(NameKind.free == NameKind.free)=true:=rfl
 simp only [List.forIn_cons,List.forIn_nil,h1,h2,e,if_true,Bool.false_eq_true,if_false,pure_bind,bind_pure]
theorem isK_l {k:NameKind}:isK false k=true→k=.local:=by
 induction k using NameKind.casesOn <;> first | exact ft | exact fun _=>rfl
theorem isK_f {k:NameKind}:isK true k=true→k=.free:=by
 induction k using NameKind.casesOn <;> first | exact ft | exact fun _=>rfl
theorem b3_i {a b c:Bool}:b3 a b c=true→a=true∧b=true∧c=true:=by
 cases a <;> cases b <;> first | exact ft | exact fun h=>⟨rfl,rfl,h⟩
theorem frOf_i {l:List (Str×NameKind)} {y:Str}:frOf l=some y→∃ a b,l=[(a,.local),(b,.local),(y,.free)]∧(y == a)=false∧(y == b)=false:=by
 induction l using List.casesOn with
 | nil=>exact nofun
 | cons a l=>induction l using List.casesOn with
  | nil=>exact nofun
  | cons b l=>induction l using List.casesOn with
   | nil=>exact nofun
   | cons c l=>
    obtain ⟨a,ka⟩:=a
    obtain ⟨b,kb⟩:=b
    obtain ⟨c,kc⟩:=c
    show Bool.rec (motive:=fun _=>Option Str) none (some c) (b3 (b3 (isK false ka) (isK false kb) (isK true kc)) (b3 (!sB c a) (!sB c b) l.isEmpty) true)=some y→_
    induction q:b3 (b3 (isK false ka) (isK false kb) (isK true kc)) (b3 (!sB c a) (!sB c b) l.isEmpty) true using Bool.casesOn with
    | false=>exact nofun
    | true=>
     intro h
     have h1:=b3_i q
     have h2:=b3_i h1.1
     have h3:=b3_i h1.2.1
     rw [← Option.some.inj h,isK_l h2.1,isK_l h2.2.1,isK_f h2.2.2]
     exact ⟨a,b,lN_a (Q:=fun l=>(a,NameKind.local)::(b,.local)::(c,.free)::l=[(a,.local),(b,.local),(c,.free)]) rfl l h3.2.2,sB_ne h3.1,sB_ne h3.2.1⟩
theorem csB_c (B:Bx P T C d cf) {sc:Scope} {x:Str} {ix:Nat} (h:csB T ⟨sc,x,ix,frOf sc.names⟩=true):∃ cl,closureFor sc C.env=pure cl∧ClOk C ⟨sc,x,ix,frOf sc.names⟩ cl∧(∀ y∈sc.names,y.2≠.cell)∧(∀ y∈sc.names,y.2=.local→sc.names.lookup y.1=some .local):=by
 have h2:=(and2 (and2 (and2 h).2).2).2
 induction q:frOf sc.names using Option.casesOn with
 | none=>
  have h2:kindsB sc false sc.names=true:=(by rw [q] at h2; exact h2)
  have k:=kindsB_i h2
  exact ⟨[],clos_none fun p hp=>(k p hp).2.2 rfl,trivial,fun p hp=>(k p hp).1,fun p hp=>(k p hp).2.1⟩
 | some y=>
  have h2:(kindsB sc true sc.names && (anyS y T.cells && !sB y "__debug__"))=true:=(by rw [q] at h2; exact h2)
  have k:=kindsB_i (and2 h2).1
  refine pL fun G0 hG0=>?_
  obtain ⟨c,hc⟩:=B.F.cells y (anyS_mem (and2 (and2 h2).2).1)
  obtain ⟨a,b,hl,n1,n2⟩:=frOf_i q
  refine hG0 ?_
  refine ⟨[(y,c)],clos_one hl hc,⟨c,?_,hc,?_,sB_ne (and2 (and2 h2).2).2⟩,fun p hp=>(k p hp).1,fun p hp=>(k p hp).2.1⟩
  ·rw [List.lookup_cons,beq_self_eq_true]
  ·show sc.names.lookup y=some .free
   rw [hl,List.lookup_cons,n1,List.lookup_cons,n2,List.lookup_cons,beq_self_eq_true]
end Mine
namespace Mine
variable {P:Pm} {C:Cx} {W W' W0:Wd} {h h' h0:Hp} {env:List V} {s:Shared} {d n:Nat} {cf:CF} {T:Tb} {x y:X} {m ma mb mc:Mt}
theorem m_comp (B:Bx P T C d cf) (ix:Nat) {q:X} (Me:SndM P C T cf x ma) (Mi:SndM P C T cf y mb) (Mq:SndM P C T cf q mc):SndM P C T cf (.comp x ix y q) (mComp T ix ma mb mc):=by
 refine { SndM.no _ with e:=fComp_a fun ee y py ei ifs sc pos h1 h2 h3 h4 h5 z=>?_,k:=fComp_a fun ee y py ei ifs sc pos h1 h2 h3 h4 h5 z iy yy pyy spos hy hc hw=>?_ }
 ·refine pL fun G0 hG0=>?_
  obtain ⟨cl,a1,a2,a3,a4⟩:=csB_c B h2
  obtain ⟨c1,c2,c3⟩:=csB_v h2
  refine hG0 ?_
  exact rule_comp (cf:=cf) (z:=z) B.ok (fun x=>fold_eq h1 C.env x) a1 a3 c1 a4 c2 (Mi.e ei h3 z) (Me.c _ ee h4 h2 cl a2 z) (Mq.cq _ ifs h5 h2 cl a2 z)
 ·refine pL fun G0 hG0=>?_
  obtain ⟨cl,a1,a2,a3,a4⟩:=csB_c B h2
  obtain ⟨c1,c2,c3⟩:=csB_v h2
  refine hG0 ?_
  exact rule_asgnC (cf:=cf) (z:=z) B.ok hw hy hc (fun x=>fold_eq h1 C.env x) a1 a3 c1 a4 c2 (Mi.e ei h3 z) (Me.c _ ee h4 h2 cl a2 z) (Mq.cq _ ifs h5 h2 cl a2 z)
theorem m_nil:SndM P C T cf .nil mNil:=
 { SndM.no _ with
  es:=lN_a (And.intro rfl fun z=>rule_nil (cf:=cf) (z:=z))
  cs:=fun c=>lN_a (Q:=QCs P C T cf .nil c) fun _ cl _ z=>elt_nil (cf:=cf) (z:=z)
  p:=fun ks vs=>andE fun h1 h2 z=>lN_a (Q:=fun ks=>Prs P C cf z .nil ks vs) (lN_a (Q:=fun vs=>Prs P C cf z .nil [] vs) .nil vs h2) ks h1
  z:=rfl }
theorem pw_one (Me:SndM P C T cf x ma) (Mr:SndM P C T cf y mb) {ek:Expr} {ks:List (Option Expr)} {vs:List Expr} (h1:ma.e ek=true) (h3:isI ma.z=true) (h4:is1 mb.z=true) (h5:ks.isEmpty=true) (hp:mb.pv ks vs=true):QPt P C cf (.cons x y) 0 (some ek::ks) vs:=by
 refine pL fun G0 hG0=>?_
 obtain ⟨v,r',ev,vs',hr,hv,k⟩:=Mr.pv _ vs hp
 obtain ⟨e2,h6⟩:=sh_1 h4 Mr.z
 have hn:r'=.nil:=(X.cons.inj (hr.symm.trans h6)).2
 have hk:=lN_a (Q:=fun ks=>ks=[]) rfl ks h5
 have hl:=(k .none).2.all.2
 have hv':vs'=[]:=List.length_eq_zero_iff.mp (by rw [← hl,hk]; rfl)
 rw [hn,hv'] at k
 rw [hn] at hr
 rw [hv'] at hv
 have hi:=sh_i h3 Me.z
 refine hG0 ?_
 exact ⟨x,v,[],[],ek,ev,by rw [hk]; rfl,hv,rfl,hi,fun z=>⟨hr▸.nil,Me.e ek h1 z,(k z).1⟩⟩
theorem pw_more (Me:SndM P C T cf x ma) (Mr:SndM P C T cf y mb) {ek:Expr} {ks:List (Option Expr)} {vs:List Expr} {n:Nat} (hn:Nat.beq n 0=false) (h1:ma.e ek=true) (h2:mb.pw (Nat.sub n 1) ks vs=true):QPt P C cf (.cons x y) n (some ek::ks) vs:=by
 refine pL fun G0 hG0=>?_
 obtain ⟨v,r',ev,vs',hr,hv,k,kt,vt,ks1,vs1,ek',ev',hks,hvs,hl,hi,k2⟩:=Mr.pw _ ks vs h2
 have hl:ks1.length + 1=n:=(by rw [hl]; have:=Nat.ne_of_beq_eq_false hn; show n - 1 + 1=n; lia)
 refine hG0 ?_
 exact ⟨kt,vt,some ek::ks1,ev::vs1,ek',ev',by rw [hks]; rfl,by rw [hv,hvs]; rfl,hl,hi,fun z=>⟨hr▸.cons (Me.e ek h1 z) (k z) (k2 z).1,(k2 z).2⟩⟩
theorem m_cons (Me:SndM P C T cf x ma) (Mr:SndM P C T cf y mb):SndM P C T cf (.cons x y) (mCons ma mb):=by
 refine { SndM.no _ with
  es:=fCons_a fun a as h1 h2 h3=>And.intro (by rw [List.all_cons,h1,(Mr.es as h3).1]; rfl) fun z=>rule_cons (cf:=cf) (z:=z) (star_cons h1 as C.env) (Me.e a h2 z) ((Mr.es as h3).2 z)
  cs:=fun c=>fCons_a fun a as h1 h2 h3 hc cl hcl z=>elt_cons (cf:=cf) (z:=z) (fun env=>star_cons h1 as env) (Me.c c a h2 hc cl hcl z) (Mr.cs c as h3 hc cl hcl z)
  p:=fun ks vs=>fKey_a (Q:=fun ks=>∀ z,Prs P C cf z (.cons x y) ks vs) (fun ek ks' h1 h2 z=>?_) ks
  pv:=fun ks vs=>fVal_a (Q:=fun vs=>QPv P C cf (.cons x y) ks vs) (fun ev vs' h1 h2=>⟨x,y,ev,vs',rfl,rfl,fun z=>⟨Me.e ev h1 z,Mr.p ks vs' h2 z⟩⟩) vs
  pt:=fun n ks vs=>fKey_a (Q:=fun ks=>QPt P C cf (.cons x y) n ks vs) (fun ek ks' h1 h2=>?_) ks
  pw:=fun n ks vs=>fVal_a (Q:=fun vs=>QPw P C cf (.cons x y) n ks vs) (fun ev vs' h1 h2=>⟨x,y,ev,vs',rfl,rfl,fun z=>Me.e ev h1 z,Mr.pt n ks vs' h2⟩) vs
  z:=sh_cons Mr.z }
 ·refine pL fun G0 hG0=>?_
  obtain ⟨v,r',ev,vs',hr,hv,k⟩:=Mr.pv ks' vs h2
  refine hG0 ?_
  rw [hr,hv]
  exact .cons (Me.e ek h1 z) (k z).1 (k z).2
 ·have h2:Bool.rec (motive:=fun _=>Bool) (mb.pw (Nat.sub n 1) ks' vs) (isI ma.z && (is1 mb.z && (ks'.isEmpty && mb.pv ks' vs))) (Nat.beq n 0)=true:=h2
  induction q:Nat.beq n 0 using Bool.casesOn with
  | true=>rw [q] at h2; rw [nB_eq q]; exact andE (fun h3=>andE fun h4=>andE fun h5 hp=>pw_one Me Mr h1 h3 h4 h5 hp) h2
  | false=>rw [q] at h2; exact pw_more Me Mr q h1 h2
theorem m_tname (B:Bx P T C d cf) (i:Nat):SndM P C T cf (.tname i) (mT (eN fun x _=>fLoc T i x) (.tn i)):=
 s_t (eN_a fun x p h=>rule_tname (cf:=cf) B.ok (loc_slot B.ok B.F h).1 (loc_slot B.ok B.F h).2) rfl
theorem m_tattr (B:Bx P T C d cf) (k:Nat) (Me:SndM P C T cf x m):SndM P C T cf (.tattr x k) (mT (fAttrT (T.nm k) m.e) .no):=by
 rw [B.F.nm]
 exact s_t (eA_a fun a n p=>andE fun h1 h2=>Eq.rec (motive:=fun n _=>QT P C cf (.tattr x k) (.Attribute a n p)) (rule_tattr (cf:=cf) B.ok B.CA fun z=>Me.e a h2 z) (sB_eq h1).symm) trivial
theorem m_tsub (B:Bx P T C d cf) (Me:SndM P C T cf x ma) (Mi:SndM P C T cf y mb):SndM P C T cf (.tsub x y) (mT (fSub ma.e mb.e) .no):=
 s_t (fSub_a fun a b p h1 h2 h3=>rule_tsub (cf:=cf) B.ok (fun z=>Me.e a h2 z) fun z=>Mi.e b h3 z) trivial
theorem m_ttup (B:Bx P T C d cf) (xs:List Nat):SndM P C T cf (.ttup xs) (mT (eT (tnB T xs)) .no):=
 s_t (eT_a fun es k p h=>rule_ttup (cf:=cf) B.ok (tn_ok B.ok B.F es h)) trivial
theorem swapped_none {et ea:Expr} (h:noSwap et ea=true) (env:Env):swappedStores [et] ea env=pure none:=by
 have k1:∀ ts k p,isList ea=false→swappedStores [.Tuple ts k p] ea env=pure none:=by
  intro ts k p; induction ea using Expr.casesOn <;> first | exact tf | exact fun _=>rfl
 have k2:∀ ts p,isList ea=false→swappedStores [.List ts p] ea env=pure none:=by
  intro ts p; induction ea using Expr.casesOn <;> first | exact tf | exact fun _=>rfl
 revert h; induction et using Expr.casesOn <;> first | exact fun h=>k1 _ _ _ (not1 h) | exact fun h=>k2 _ _ (not1 h) | exact fun _=>rfl
theorem assign_one {et:Expr} (h:noStar et=true) (env:Env):(assignEach [et] env).map (·.2)=[assign et env]:=by
 revert h; induction et using Expr.casesOn <;> first | exact fun _=>rfl | exact ft
theorem swB_i {y:Str} {py:Pos} {line:Nat} (F:Fx P T C):∀ ea,swB T y py ea=true→swapsWith ea (some (.Name y py)) line C.env=pure true∧isLoc (slk y T.sc.names)=true:=by
 refine eG_a fun ee gs sc pos=>andE fun h1=>andE fun h2=>andE fun h3 h4=>⟨?_,h2⟩
 have k1:C.env.scope.kind=.function:=(by show C.cs.kind=.function; rw [F.sc]; exact isFun_eq h1)
 have k2:C.env.blockKind=.function:=by unfold Env.blockKind; rw [k1]; rfl
 have k3:C.env.kindOf y=some .local:=(by show C.cs.names.lookup y=_; rw [F.sc,← slk_eq]; exact isLoc_eq h2)
 show (pure (C.env.blockKind == .function && C.env.kindOf y == some .local && py.line == pos.line && !(sc.names.any fun (n,k)=>n == y && (k == .local || k == .cell))):Sem Bool)=pure true
 rw [k2,k3,h3,h4]
 rfl
theorem m_asgn (B:Bx P T C d cf) (Mt:SndM P C T cf x ma) (Me:SndM P C T cf y mb):SndM P C T cf (.asgn x y) (mS (sA fun ts ea _=>l1 (fun et=>mAsgn T ma mb et ea) ts)):=by
 refine s_s (sA_a fun ts ea pos=>l1_a (Q:=fun ts=>QS P C cf (.asgn x y) (.Assign ts ea pos)) (fun et h z=>?_) ts)
 have h:Bool.rec (motive:=fun _=>Bool) (fAsC T ma.z mb.k et ea) (noSwap et ea && (noStar et && (ma.t et && mb.e ea))) (noComp ea || subT et)=true:=h
 induction q:(noComp ea || subT et) using Bool.casesOn with
 | true=>
  rw [q] at h
  refine andE (fun h1=>andE fun h2=>andE fun h3 h4=>rule_asgn (cf:=cf) (z:=z) ?_ (swapped_none h1 C.env) (assign_one h2 C.env) (Me.e ea h4 z) (Mt.t et h3)) h
  show swapsWith ea (some et) pos.line C.env=pure false
  exact orE (fun q=>swaps_eq q _ _ _) (fun q=>swaps_sub q _ _ _) q
 | false=>
  rw [q] at h
  obtain ⟨iy,hx,h⟩:=sh_T h Mt.z
  rw [hx]
  refine eN_a (Q:=fun et=>SndS P C _ (.Assign [et] ea pos)) (fun y' py=>andE fun h1=>andE fun h2 h3=>?_) et h
  have w:=swB_i (line:=pos.line) B.F ea h3
  exact Me.k ea h2 z iy y' py pos (by rw [B.F.names]; exact nmAt_eq h1) (cl_none B.ok B.F w.2) w.1
theorem m_aug (B:Bx P T C d cf) (i op:Nat) (Me:SndM P C T cf x m):SndM P C T cf (.aug i op x) (mS (fAug op (fLoc T i) m.e)):=
 s_s (sU_a fun t o ea p=>eN_a (Q:=fun t=>QS P C cf (.aug i op x) (.AugAssign t o ea p)) (fun n px=>andE fun h1=>andE fun h2 h3=>opB_a (Q:=fun o=>QS P C cf (.aug i op x) (.AugAssign (.Name n px) o ea p)) (fun _ z=>rule_aug (cf:=cf) (z:=z) B.ok (loc_slot B.ok B.F h1).1 (loc_slot B.ok B.F h1).2 (Me.e ea h3 z)) o h2) t)
theorem m_expr (B:Bx P T C d cf) (Me:SndM P C T cf x m):SndM P C T cf (.expr x) (mS (sE fun ea=>noComp ea && m.e ea)):=
 s_s (sE_a fun ea pos=>andE fun h1 h2 z=>rule_expr (cf:=cf) (z:=z) B.ok (swaps_eq h1 _ _ _) (by show (C.cs.kind == .module && _)=false; rw [B.ok.kind]; rfl) (Me.e ea h2 z))
theorem m_ret (Me:SndM P C T cf x m):SndM P C T cf (.ret x) (mS (fRet m.z m.e)):=by
 refine s_s (sR_a fun o pos h z=>?_)
 induction o using Option.casesOn with
 | some ea=>exact rule_ret (cf:=cf) (z:=z) (Me.e ea h z)
 | none=>rw [sh_0 h Me.z]; exact rule_ret0 (cf:=cf) (z:=z)
theorem m_if {c:X} (Mc:SndM P C T cf c mc) (Ma:SndM P C T cf x ma) (Mb:SndM P C T cf y mb):SndM P C T cf (.if_ c x y) (mS (fIfS mc.b ma.ss mb.ss)):=
 s_s (sI_a fun ec sa sb p=>andE fun h1=>andE fun h2 h3 z=>rule_if (cf:=cf) (z:=z) (Mc.b ec h1 z) (Ma.ss sa h2 z) (Mb.ss sb h3 z))
theorem m_for (B:Bx P T C d cf) {t:X} (Mt:SndM P C T cf t mc) (Mi:SndM P C T cf x ma) (Mb:SndM P C T cf y mb):SndM P C T cf (.for_ t x y) (mS (fFor mc.t ma.e mb.ss)):=
 s_s (sF_a fun et ei sts el p=>andE fun h0=>andE fun h1=>andE fun h2=>andE fun h3 h4=>lN_a (Q:=fun el=>QS P C cf (.for_ t x y) (.For et ei sts el p)) (fun z=>rule_for (cf:=cf) (z:=z) B.ok (fun x=>fold_eq h1 C.env x) (Mt.t et h2) (Mi.e ei h3 z) (Mb.ss sts h4 z)) el h0)
theorem m_pass:SndM P C T cf .pass (mS (sP true)):=s_s (sP_a fun p _ z=>rule_pass (cf:=cf) (z:=z))
theorem m_dead:SndM P C T cf .dead (mS fun _=>true):=s_s fun st h z=>rule_dead (cf:=cf) (z:=z)
theorem m_snil:SndM P C T cf .snil { Mt.no with ss:=fun sts=>sts.isEmpty }:={ SndM.no _ with ss:=lN_a fun z=>rule_snil (cf:=cf) (z:=z) }
theorem fSs_i {f:Stmt→Bool} {g:List Stmt→Bool} {sts:List Stmt} (h:fSs f g sts=true):∃ st r,sts=st::r∧f st=true∧g r=true:=
 lC_a (Q:=fun sts=>∃ st r,sts=st::r∧f st=true∧g r=true) (fun st r=>andE fun h1 h2=>⟨st,r,rfl,h1,h2⟩) sts h
theorem m_scons (Ma:SndM P C T cf x ma) (Mr:SndM P C T cf y mb):SndM P C T cf (.scons x y) { Mt.no with ss:=fSs ma.s mb.ss }:=
 { SndM.no _ with ss:=lC_a fun st r=>andE fun h1 h2 z=>rule_seq (cf:=cf) (z:=z) (Ma.s st h1 z) (Mr.ss r h2 z) }
theorem snd_mt (B:Bx P T C d cf):∀ x:X,SndM P C T cf x (mt T x):=by
 intro x
 induction x with
 | none=>exact m_none
 | bool b=>exact m_bool b
 | int i=>exact m_int i
 | str k=>exact m_str B k
 | loc i=>exact m_loc B i
 | glb g=>exact m_glb B g
 | attr e k ih=>exact m_attr B k ih
 | bin op a b iha ihb=>exact m_bin B op iha ihb
 | not e ih=>exact m_not ih
 | neg e ih=>exact m_neg ih
 | and r ih=>exact m_and ih
 | or r ih=>exact m_or ih
 | ande a ih=>exact m_ande ih
 | andc a r iha ihr=>exact m_andc iha ihr
 | ore a ih=>exact m_ore ih
 | orc a r iha ihr=>exact m_orc iha ihr
 | cmp op a b iha ihb=>exact m_cmp B op iha ihb
 | chain o1 o2 a b c iha ihb ihc=>exact m_chain B o1 o2 iha ihb ihc
 | ite c a b ihc iha ihb=>exact m_ite ihc iha ihb
 | tup es ih=>exact m_tup ih
 | lst es ih=>exact m_lst ih
 | dct ks vs ihk ihv=>exact m_dct B ihk
 | sub a i iha ihi=>exact m_sub B iha ihi
 | slice a lo hi st iha il ih is=>exact m_slice iha il ih is
 | call f as ihf iha=>exact m_call B ihf iha
 | meth o k as iho iha=>exact m_meth B k iho iha
 | comp e ix it q ihe ihi ihq=>exact m_comp B ix ihe ihi ihq
 | nil=>exact m_nil
 | cons e r ihe ihr=>exact m_cons ihe ihr
 | tname i=>exact m_tname B i
 | tattr e k ih=>exact m_tattr B k ih
 | tsub e i ihe ihi=>exact m_tsub B ihe ihi
 | ttup xs=>exact m_ttup B xs
 | asgn t e iht ihe=>exact m_asgn B iht ihe
 | aug i op e ih=>exact m_aug B i op ih
 | expr e ih=>exact m_expr B ih
 | ret e ih=>exact m_ret ih
 | if_ c a b ihc iha ihb=>exact m_if ihc iha ihb
 | for_ t it b iht ihi ihb=>exact m_for B iht ihi ihb
 | pass=>exact m_pass
 | dead=>exact m_dead
 | snil=>exact m_snil
 | scons a r iha ihr=>exact m_scons iha ihr
end Mine
namespace Mine
variable {P:Pm} {C:Cx} {W W':Wd} {h h':Hp} {env:List V} {s:Shared} {d n:Nat}
inductive FnOkC (P:Pm) (nm gn:Nat→Str) (a:Addr) (fn:F):Prop
 | mk (oc:Value) (od:Option Addr) (osl:Array (Option Value)) (name qual:Str) (as:List Arg) (body:List Stmt) (scope:Scope) (kV doc pm:Value) (an:Option Addr) (cdv ct:Value) (names:List Str) (x:Str) (px:Pos) (ea:Expr) (pos:Pos) (rest:List Stmt) (ix:Nat) (e r:X) :
  P.K.lookup a=some ⟨oc,od,.func (fnOf name qual ⟨[],as,none,[],[],none,[]⟩ body scope .none kV doc pm an cdv ct),osl⟩→codeIn P.K cdv qual=true→
  as.length=fn.np→names.take fn.np=as.map (·.arg)→names.length≤fn.nl→fn.np≤fn.nl→names.Nodup→(∀ y∈names,y≠x→scope.names.lookup y=some .local)→(∀ y∈names,(y == ("__debug__":Str))=false)→
  scope.isCoroutine=false→scope.isGenerator=false→scope.kind=.function→(∀ n,cellsFrom n scope.names []=[(x,n)])→scope.names.lookup x=some .cell→x∉as.map (·.arg)→
  names[ix]?=some x→body=.Assign [.Name x px] ea pos::rest→fn.body=.scons (.asgn (.tname ix) e) r→noComp ea=true→noSwap (.Name x px) ea=true→
  (mt ⟨nm,gn,names,scope,[x]⟩ e).e ea=true→(mt ⟨nm,gn,names,scope,[x]⟩ r).ss rest=true→FnOkC P nm gn a fn
theorem bindL_local {k:Str→Option NameKind}:∀ (binds:List (Str×Value)) (m:Str→Option Value),(∀ b∈binds,k b.1=some .local)→∀ y,bindL k binds m y=(binds.reverse.lookup y).or (m y)
 | [],m,_,y=>by rfl
 | (a,v)::r,m,hb,y=>by
  have h1:k a=some .local:=hb _ (.head _)
  show bindL k r (if k a=some .local then fun y=>if y=a then some v else m y else m) y=_
  rw [if_pos h1,bindL_local r _ (fun b hm=>hb b (.tail _ hm)) y]
  have:∀ (l l2:List (Str×Value)),(l ++ l2).lookup y=(l.lookup y).or (l2.lookup y):=by
   intro l l2
   induction l with
   | nil=>rfl
   | cons p l ih=>
    obtain ⟨a,b⟩:=p
    rw [List.cons_append,List.lookup_cons,List.lookup_cons,ih]
    cases y == a <;> rfl
  rw [List.reverse_cons,this]
  induction q:List.lookup y r.reverse using Option.casesOn with
  | some w=>rfl
  | none=>
   show (if y=a then some v else m y)=(List.lookup y [(a,v)]).or (m y)
   rw [List.lookup_cons]
   by_cases e:y=a
   ·subst e; rw [if_pos rfl,beq_self_eq_true]; rfl
   ·rw [if_neg e,beq_eq_false_iff_ne.mpr e]; rfl
theorem bindC_local {k:Str→Option NameKind}:∀ (binds:List (Str×Value)) (m:Str→Option Value),(∀ b∈binds,k b.1=some .local)→bindC k binds m=m
 | [],m,_=>rfl
 | (a,v)::r,m,hb=>by
  have h1:k a=some .local:=hb _ (.head _)
  show bindC k r (if k a=some .local then m else fun y=>if y=a then some v else m y)=m
  rw [if_pos h1]
  exact bindC_local r m fun b hm=>hb b (.tail _ hm)
theorem cell_first (ok:C.Ok P d) {x:Str} {c:Addr} {px pos:Pos} {ea:Expr} {rest:List Stmt} {ix:Nat} {fe fr:U} {cf:CF} {z:V} {o:Obj} {W0:Wd} {h0:Hp} {env:List V} (hn:noComp ea=true) (hw:noSwap (.Name x px) ea=true)
  (hx:C.names[ix]?=some x) (hc:C.cl=[(x,c)]) (hub:∀ v,env[ix]?=some v→v=.ub) (Se:SndE P C (fun env h=>fe cf z env h) ea) (Sr:SndSs P C (fun env h=>fr cf z env h) rest)
  {E:Value→Shared→Prop} {Q:Flow→Shared→Prop} (S:St P C W h env s) (r0:Rel P W0 h0) (l:LI W0 h0 W h c o) (hd:o.data=.cell none) (out:Out P C W0 h0 Q (cSeq (cAsgn (cName ix) fe) fr cf z env h)) :
  wpAny (Cx.M P) C.A (execs (.Assign [.Name x px] ea pos::rest) C.env) Q E s:=by
 have ni:¬ Imm o:=by
  rintro (⟨ys,rfl⟩ | ⟨y,e⟩)
  ·cases hd
  ·rw [hd] at e; cases e
 have hcl:C.cl.lookup x=some c:=by rw [hc]; simp [List.lookup_cons]
 have out':∃ v h1,fe cf z env h=.v v h1∧Out P C W0 h0 Q (fr cf z (lset v env ix) h1):=by
  have e:Out P C W0 h0 Q (R.bnx ((fe cf z env h).bv fun v h=>(cName ix cf v env h).tnx fun env h=>.nx env h) fun env h=>fr cf z env h):=out
  generalize fe cf z env h=q at e
  induction q using R.casesOn with
  | v v h1=>exact ⟨v,h1,rfl,e⟩
  | _=>exact e.elim
 obtain ⟨v,h1,e1,o1⟩:=out'
 rw [execs_cons]
 refine wpAny_bind ?_
 rw [exec_Assign]
 refine wpAny_bind (wpAny_standAt ?_)
 rw [show swapsWithSole [.Name x px] ea pos.line C.env=pure false by show swapsWith ea (some (.Name x px)) pos.line C.env=pure false; exact swaps_eq hn _ _ _]
 refine wpAny_bind (wpAny_pure ?_)
 rw [if_neg (by decide)]
 refine wpAny_bind (Se W h env _ v h1 _ E S e1 fun W1 s1 y X1 S1 r1=>?_)
 rw [swapped_none hw]
 refine wpAny_bind (wpAny_pure ?_)
 rw [assign_one (et:=.Name x px) rfl]
 show wpAny _ _ (do assignAll y [assign (.Name x px) C.env]; pure Flow.next) _ E s1
 refine wpAny_bind ?_
 show wpAny _ _ (assign (.Name x px) C.env y) _ E s1
 have l1:=l.step S.rel X1 S1.rel
 refine assign_Name ?_
 refine wpAny_storeName_cell ok.kind (ok.cel x c hcl) hcl ⟨o,S1.nw.get l1.row,hd⟩ fun hp hv hs=>?_
 refine pL fun G0 hG0=>?_
 obtain ⟨o',ho',hd'⟩:=hv
 obtain ⟨S2,l2,L2⟩:=l1.setSt (o':=o') S1 ni hs ho' s1.toks
 refine hG0 ?_
 have S3:St P C ⟨W1.si,setRow c o' W1.ns⟩ h1 (lset v env ix) { s1 with heap:=hp }:=by
  obtain ⟨m,F,Em⟩:=S2.fr
  refine ⟨S2.rel,⟨m,F,fun i y' w h2 h3 h4=>?_⟩,S2.nw,S2.gens,S2.os⟩
  rw [lset_get] at h3
  by_cases q:ix=i
  ·subst q
   rw [hx] at h2; (obtain rfl:=Option.some.inj h2)
   by_cases q2:ix < env.length
   ·rw [if_pos ⟨rfl,q2⟩] at h3
    (obtain rfl:=Option.some.inj h3)
    exact ⟨y,.inr ⟨c,o',hcl,l2.row,hd'⟩,(rv_mono2 L2 _).1 _ r1⟩
   ·rw [if_neg (fun w=>q2 w.2)] at h3
    exact absurd (hub w h3) h4
  ·rw [if_neg (fun w=>q w.1)] at h3
   exact Em i y' w h2 h3 h4
 refine wpAny_pure ?_
 exact Sr _ h1 _ _ Q E S3 (o1.step l2.ext S3.rel)
theorem enter_cell {nm gn:Nat→Str} {ih:CF} (mk:∀ (C:Cx),C.Ok P d→∀ names x,C.names=names→(∃ c,C.cl.lookup x=some c)→Bx P ⟨nm,gn,names,C.cs,[x]⟩ C d ih)
  (ok:C.Ok P (d + 1)) {a:Addr} {fn:F} (fo:FnOkC P nm gn a fn) {args:List V} {vs:List Value} {v:V} {Q:Value→Shared→Prop} {E:Value→Shared→Prop} (S:St P C W h env s) (ra:RVs P W h.n args vs) (e:enter ih args h fn=.v v h') (g:Go P C W h env h' v Q) :
  codeAny (Cx.M P) C.A (.call (.ref a) ⟨vs,[]⟩) (Ret Q E) s:=by
 refine pL fun G0 hG0=>?_
 obtain ⟨oc,od,osl,name,qual,as,bd,scope,kV,doc,pm,an,cdv,ct,names,x,px,ea,pos,rest,ix,xe,xr,hK,hcd,hnp,htk,hnl,hle,hnd,hloc,hdbg,hco,hgen,hkind,hcf,hxc,hxa,hix,rfl,hfb,hnc,hns,hme,hmr⟩:=fo
 refine hG0 ?_
 have hl:args.length=fn.np:=by
  unfold enter at e
  split at e
  ·rename_i q; rw [beqD,decide_eq_true_iff] at q; exact q
  ·exact rX e
 have e':fin (sem fn.body ih .none (args ++ padN (Nat.sub fn.nl fn.np)) h)=.v v h':=by
  unfold enter at e
  rw [beqD,decide_eq_true hl] at e
  exact e
 have hlv:=ra.len
 obtain ⟨m,F,Em⟩:=S.fr
 have X:=in_keeps ok.x F.keep
 have hlas:as.length=vs.length:=by lia
 have hnd':(as.map (·.arg)).Nodup:=by rw [← htk]; exact hnd.sublist (List.take_sublist _ _)
 have hb:∀ y∈(as.map (·.arg)).zip vs,scope.names.lookup y.1=some .local:=by
  intro y hy
  have hm:y.1∈as.map (·.arg):=(List.of_mem_zip (show (y.1,y.2)∈_ from hy)).1
  refine hloc _ ?_ fun q=>hxa (q▸hm)
  rw [← htk] at hm
  exact List.mem_of_mem_take hm
 refine callX_cells (binds:=(as.map (·.arg)).zip vs) ok.below F S.nw ok.t.nolimit ok.frames rfl ok.kind (X _ _ hK) rfl (codeRec_of X hcd) (by have:=ok.depth; show C.A.depth < 1000; lia) (BindsTo.of_eq (bind_simple rfl rfl hlas hnd')) ?_ ?_ ?_ hco hgen hkind
 ·intro n y hy
  exact .inl (hb y hy)
 ·rw [hcf 0]; exact List.nodup_cons.mpr ⟨nofun,List.nodup_nil⟩
 ·intro g' L' h₁ tk cells Fg F' N' CA B' stay low
  have hcl:cellsFrom (L' + 1) scope.names []=[(x,L' + 1)]:=hcf _
  have hbl:bindL (envOfC qual scope L' a cdv).kindOf ((as.map (·.arg)).zip vs) (fun _=>none)=fun y=>((as.map (·.arg)).zip vs).reverse.lookup y:=by
   funext y
   rw [bindL_local _ _ hb]
   cases List.lookup y ((as.map (·.arg)).zip vs).reverse <;> rfl
  refine pL fun G0 hG0=>?_
  rw [hbl] at F'
  rw [hcl,bindC_local _ _ hb] at CA
  obtain ⟨o,rfl,hod⟩:=CA.one
  refine hG0 ?_
  let C':Cx:={ loose:=C.loose,mg:=C.mg,mb:=C.mb,base:=C.base,h₀:=g',outer:=C.env::C.outer,A₀:=C.A,A:=C.A.deeper (envOfC qual scope L' a cdv),L:=L',a:=a,cn:=qual,cs:=scope,ccd:=cdv,names:=names,cl:=cellsFrom (L' + 1) scope.names [],gens:=C.gens,os:=C.os }
  have ok':C'.Ok P d:=by
   refine ⟨ok.pok,B',Around.frames_deeper ok.frames,in_keeps ok.x stay,ok.t.keeps stay,?_,?_,ok.handled,hkind,hnd,fun y hy hn=>hloc y hy fun q=>?_,fun y c q=>?_,hdbg⟩
   ·have:=ok.depth; show C.A.depth + 1 + 3 * d≤900; lia
   ·have:=ok.units; show C.A.units + 3 + 8 * d≤9000; lia
   ·have hn:(cellsFrom (L' + 1) scope.names []).lookup y=none:=hn
    rw [hcl,q,List.lookup_cons,beq_self_eq_true] at hn
    exact oX hn
   ·have q:(cellsFrom (L' + 1) scope.names []).lookup y=some c:=q
    rw [hcl,List.lookup_cons] at q
    induction w:y == x using Bool.casesOn with
    | true=>rw [eq_of_beq w]; exact hxc
    | false=>rw [w] at q; exact oX q
  have r1:=S.rel.raw (a:=L' + 1) (o:=o) fun p hp=>Nat.lt_succ_of_lt (low p hp)
  have hno:L' + 1∉W.ns.map (·.1):=fun q=>by
   obtain ⟨p,hp,e⟩:=List.mem_map.mp q
   have e:p.1=L' + 1:=e
   have:=low p hp
   rw [e] at this
   exact Nat.lt_irrefl _ (Nat.lt_trans (Nat.lt_succ_self L') this)
  have lI:LI W h ⟨W.si,(L' + 1,o)::W.ns⟩ h (L' + 1) o:=⟨r1.2,.head _,fun j hj e=>hno (e▸S.rel.dom j hj),hno⟩
  have S':St P C' ⟨W.si,(L' + 1,o)::W.ns⟩ h (args ++ padN (Nat.sub fn.nl fn.np)) { s with heap:=h₁,toks:=tk }:=by
   refine ⟨r1.1,⟨_,F',fun i y v h1 h2 h3=>?_⟩,N',S.gens,S.os⟩
   have h1:names[i]?=some y:=h1
   by_cases q:i < args.length
   ·rw [List.getElem?_append_left q] at h2
    obtain ⟨u,y1,y2⟩:=ra.get h2
    have hm:y∈as.map (·.arg):=by
     rw [← htk]
     exact List.mem_of_getElem? (i:=i) (by rw [List.getElem?_take,if_pos (by lia)]; exact h1)
    refine ⟨u,.inl ⟨?_,lookup_rev _ vs hnd' (by simp [hlas]) i y u ?_ y1⟩,(rv_mono2 r1.2.L _).1 _ y2⟩
    ·show (cellsFrom (L' + 1) scope.names []).lookup y=none
     rw [hcl,List.lookup_cons,beq_eq_false_iff_ne.mpr (fun (q:y=x)=>hxa (q▸hm))]; rfl
    ·rw [← htk,List.getElem?_take,if_pos (by lia)]; exact h1
   ·rw [List.getElem?_append_right (by lia)] at h2
    exact absurd (padN_get _ _ _ h2) h3
  have B:=mk C' ok' names x rfl ⟨L' + 1,by show (cellsFrom (L' + 1) scope.names []).lookup x=_; rw [hcl]; simp [List.lookup_cons]⟩
  refine wpAny_mono (cell_first (W0:=W) (h0:=h) (fe:=sem xe) (fr:=sem xr) (cf:=ih) (z:=.none) (Q:=fun fl s'=>LeaveK C.h₀ C.L m g' (Ret Q E) (match fl with | .ret v=>v | _=>.none) s') (E:=fun _ _=>False) ok' hnc hns hix hcl (fun w hw=>?_) ((snd_mt B xe).e ea hme .none) ((snd_mt B xr).ss rest hmr .none) S' S.rel lI hod ?_) (fun fl s' z=>?_) (fun _ _ z=>z.elim)
  ·by_cases q:ix < args.length
   ·have hm:x∈as.map (·.arg):=by
     rw [← htk]
     exact List.mem_of_getElem? (i:=ix) (by rw [List.getElem?_take,if_pos (by lia)]; exact hix)
    exact absurd hm hxa
   ·rw [List.getElem?_append_right (by lia)] at hw
    exact padN_get _ _ _ hw
  ·have leave:∀ (W':Wd) (h'':Hp) (s':Shared) (env':List V) (w:V) (y:Value),R.v w h''=.v v h'→Ext W W' h h''→St P C' W' h'' env' s'→RV P W' h''.n w y→
     LeaveK C.h₀ C.L m g' (Ret Q E) y s':=by
    intro W' h'' s' env' w y q Xe Sx rv
    refine pL fun G0 hG0=>?_
    (obtain ⟨rfl,rfl⟩:=R.v.inj q)
    obtain ⟨m',F'',_⟩:=Sx.fr
    refine hG0 ?_
    exact ⟨L',m',W'.ns,F'',Sx.nw,fun Fb Nb=>g W' s' y Xe ⟨Sx.rel,⟨m,Fb,Em.mono Xe.L⟩,Nb,Sx.gens,Sx.os⟩ rv⟩
   rw [hfb] at e'
   show Out P C' W h _ (sem (.scons (.asgn (.tname ix) xe) xr) ih .none (args ++ padN (Nat.sub fn.nl fn.np)) h)
   generalize sem (.scons (.asgn (.tname ix) xe) xr) ih .none (args ++ padN (Nat.sub fn.nl fn.np)) h=r at e'
   induction r using R.casesOn with
   | nx env' h''=>intro W' s' Xe Sx; exact leave W' h'' s' _ .none _ e' Xe Sx (by simp only [RV])
   | rt w h''=>intro W' s' y Xe Sx rv; exact leave W' h'' s' _ w _ e' Xe Sx rv
   | v _ _=>exact rX e'
   | vs _ _=>exact rX e'
   | no=>exact rX e'
  ·exact z
end Mine
namespace Mine
variable {P:Pm} {C:Cx} {W W':Wd} {h h':Hp} {env:List V} {s:Shared} {d n:Nat}
structure Gd (P:Pm) (gn:Nat→Str):Prop where
 G:GOk P P.K
 CA:ClsAll P
 N:NOk P
 gname:∀ g q,glbT.get g=some q→GName P g (gn g)
 cw:∀ g,calB g=true→CW P (P.gv g)
 fn:∀ f q,fnT.get f=some q→FnOk P (fun names cs b sts=>(mt ⟨P.nm,gn,names,cs,[]⟩ b).ss sts=true) (P.fa f) q∨FnOkC P P.nm gn (P.fa f) q
variable {gn:Nat→Str}
theorem Gd.bx (D:Gd P gn) {ih:CF} (SC:SndCF P d ih) (ok:C.Ok P d) {names:List Str} {cells:List Str} (hn:C.names=names) (hc:∀ y∈cells,∃ c,C.cl.lookup y=some c):Bx P ⟨P.nm,gn,names,C.cs,cells⟩ C d ih:=
 ⟨ok,D.G,D.CA,D.N,SC,⟨rfl,D.gname,D.cw,hn,rfl,hc⟩⟩
theorem Gd.enter (D:Gd P gn) {ih:CF} (SC:SndCF P d ih):∀ f q,fnT.get f=some q→∀ (C:Cx),C.Ok P (d + 1)→∀ W h env s args vs v h' Q E,St P C W h env s→RVs P W h.n args vs→enter ih args h q=.v v h'→Go P C W h env h' v Q→codeAny (Cx.M P) C.A (.call (.ref (P.fa f)) ⟨vs,[]⟩) (Ret Q E) s:=by
 intro f q hq C ok W h env s args vs v h' Q E S ra e g
 rcases D.fn f q hq with fo | fo
 ·refine enter_ok (ih:=ih) (fun C' ok' names b sts hn hm=>?_) ok fo S ra e g
  exact (snd_mt (D.bx SC ok' hn fun y hy=>absurd hy List.not_mem_nil) b).ss sts hm .none
 ·refine enter_cell (ih:=ih) (nm:=P.nm) (gn:=gn) (fun C' ok' names x hn hc=>?_) ok fo S ra e g
  exact D.bx SC ok' hn fun y hy=>by rcases List.mem_singleton.mp hy with rfl; exact hc
theorem Gd.step (D:Gd P gn) {ih:CF} (SC:SndCF P d ih):SndCF P (d + 1) (callStep ih):=step_ok D.G D.CA SC (D.enter SC)
theorem Gd.calls (D:Gd P gn) (k:Nat):SndCF P k (callF k):=by
 induction k with
 | zero=>exact none_ok
 | succ k ih=>exact D.step ih
end Mine
namespace Mine
noncomputable section
structure Alt (P P':Pm) (κ B:Nat):Prop where
 prog:P'.prog=P.prog
 w:P'.w=P.w
 ka:P'.ka=P.ka
 nm:P'.nm=P.nm
 ca:P'.ca=P.ca
 kt:P'.kt=P.kt
 gv:∀ g,g < B→P'.gv g=P.gv g
 io:κ < 1000→P'.io 0=P.io κ
noncomputable def tupish (v:V):Bool:=match v with | .tn=>true | .tc _ _=>true | _=>false
noncomputable def fitV (r:Nat→Nat) (κ B m:Nat) (v:V):V→Bool:=V.rec (motive:=fun _=>V→Bool)
 (fun b=>match b with | .none=>true | _=>false)
 (fun x b=>match b with | .bool y=>Bool.rec (Bool.rec true false y) y x | _=>false)
 (fun x b=>match b with | .int y=>iB x y | _=>false)
 (fun x b=>match b with | .str y=>Nat.beq x y | _=>false)
 (fun b=>match b with | .dyn=>true | _=>false)
 (fun a b=>match b with | .ref c=>b3 (Nat.beq (r a) c) (Nat.blt a m) true | _=>false)
 (fun g b=>match b with | .glb k=>b3 (Nat.beq g k) (Nat.blt g B) true | _=>false)
 (fun e b=>match e with
  | .n k c=>(match b with | .si e'=>(match e' with | .n k' c'=>b3 (Nat.beq k 0) (Nat.beq c c') (b3 (Nat.beq k' κ) (Nat.blt κ 1000) true) | _=>false) | _=>false)
  | _=>false)
 (fun x b=>match b with | .kd y=>Nat.beq x y | _=>false)
 (fun _=>true)
 (fun _=>false)
 (fun b=>match b with | .tn=>true | _=>false)
 (fun _ r' ix ir b=>match b with | .tc y s=>b3 (ix y) (ir s) (tupish r') | _=>false) v
noncomputable def Wd.via (W:Wd) (r:Nat→Nat):Wd:=⟨fun i=>W.si (r i),W.ns⟩
theorem b3_t {a b c:Bool}:b3 a b c=true→a=true∧b=true∧c=true:=by cases a <;> cases b <;> first | exact ft | exact fun h=>⟨rfl,rfl,h⟩
theorem beq_t {a b:Nat} (h:Nat.beq a b=true):a=b:=Nat.eq_of_beq_eq_true h
theorem blt_t {a b:Nat} (h:Nat.blt a b=true):a < b:=by rw [blt_eq] at h; exact of_decide_eq_true h
variable {P P':Pm} {W W':Wd} {n n' m κ B:Nat} {r:Nat→Nat}
theorem pullV (A:Alt P P' κ B):∀ v v':V,fitV r κ B m v v'=true→(∀ y,RV P W n v' y→RV P' (W.via r) m v y)∧(∀ ys,RT P W n v' ys→RT P' (W.via r) m v ys∨v=.bad):=by
 intro v
 induction v with
 | none=>
  intro v'
  induction v' using V.casesOn <;> first | exact ft | skip
  intro h
  exact ⟨fun y q=>by simpa only [RV] using q,fun ys q=>by simp only [RT] at q⟩
 | bool b=>
  intro v'
  induction v' using V.casesOn <;> first | exact ft | skip
  intro h
  rename_i c
  have:b=c:=by cases b <;> cases c <;> first | rfl | exact bX h
  subst this
  exact ⟨fun y q=>by simpa only [RV] using q,fun ys q=>by simp only [RT] at q⟩
 | int i=>
  intro v'
  induction v' using V.casesOn <;> first | exact ft | skip
  intro h
  have:=iB_t (show iB i _=true from h)
  subst this
  exact ⟨fun y q=>by simpa only [RV] using q,fun ys q=>by simp only [RT] at q⟩
 | str k=>
  intro v'
  induction v' using V.casesOn <;> first | exact ft | skip
  intro h
  have:=beq_t (show Nat.beq k _=true from h)
  subst this
  exact ⟨fun y q=>by simp only [RV] at q ⊢; rw [A.nm]; exact q,fun ys q=>by simp only [RT] at q⟩
 | dyn=>
  intro v'
  induction v' using V.casesOn <;> first | exact ft | skip
  intro h
  exact ⟨fun y q=>by simpa only [RV] using q,fun ys q=>by simp only [RT] at q⟩
 | ref a=>
  intro v'
  induction v' using V.casesOn <;> first | exact ft | skip
  intro h
  obtain ⟨h1,h2,_⟩:=b3_t (show b3 (Nat.beq (r a) _) (Nat.blt a m) true=true from h)
  have:=beq_t h1
  subst this
  exact ⟨fun y q=>by simp only [RV] at q ⊢; exact ⟨blt_t h2,q.2⟩,fun ys q=>by simp only [RT] at q⟩
 | glb g=>
  intro v'
  induction v' using V.casesOn <;> first | exact ft | skip
  intro h
  obtain ⟨h1,h2,_⟩:=b3_t (show b3 (Nat.beq g _) (Nat.blt g B) true=true from h)
  have:=beq_t h1
  subst this
  exact ⟨fun y q=>by simp only [RV] at q ⊢; rw [A.gv _ (blt_t h2)]; exact q,fun ys q=>by simp only [RT] at q⟩
 | si e=>
  intro v'
  induction e using SI.casesOn <;> first | exact ft | skip
  rename_i k c
  induction v' using V.casesOn <;> first | exact ft | skip
  rename_i e'
  induction e' using SI.casesOn <;> first | exact ft | skip
  rename_i k' c'
  intro h
  obtain ⟨h1,h2,h3⟩:=b3_t (show b3 (Nat.beq k 0) (Nat.beq c c') (b3 (Nat.beq k' κ) (Nat.blt κ 1000) true)=true from h)
  obtain ⟨h4,h5,_⟩:=b3_t h3
  have e1:=beq_t h1
  have e2:=beq_t h2
  have e3:=beq_t h4
  subst e1 e2 e3
  refine ⟨fun y q=>?_,fun ys q=>by simp only [RT] at q⟩
  simp only [RV] at q ⊢
  obtain ⟨t,rfl⟩:=q
  refine ⟨t,?_⟩
  simp only [SI.val]
  rw [A.io (blt_t h5)]
 | kd j=>
  intro v'
  induction v' using V.casesOn <;> first | exact ft | skip
  intro h
  have:=beq_t (show Nat.beq j _=true from h)
  subst this
  exact ⟨fun y q=>by simp only [RV] at q ⊢; rw [A.ka]; exact q,fun ys q=>by simp only [RT] at q⟩
 | bad=>intro v' h; exact ⟨fun y q=>by simp only [RV],fun ys q=>.inr rfl⟩
 | ub=>exact fun _=>ft
 | tn=>
  intro v'
  induction v' using V.casesOn <;> first | exact ft | skip
  intro h
  exact ⟨fun y q=>by simp only [RV] at q ⊢; exact q,fun ys q=>.inl (by simpa only [RT] using q)⟩
 | tc x s ix is=>
  intro v'
  induction v' using V.casesOn <;> first | exact ft | skip
  intro h
  rename_i x' s'
  obtain ⟨h1,h2,h3⟩:=b3_t (show b3 (fitV r κ B m x x') (fitV r κ B m s s') (tupish s)=true from h)
  have key:∀ ys,RT P W n s' ys→RT P' (W.via r) m s ys:=fun ys q=>by
   rcases (is s' h2).2 ys q with q | q
   ·exact q
   ·rw [q] at h3; exact bX h3
  refine ⟨fun y q=>?_,fun ys q=>?_⟩
  ·simp only [RV] at q ⊢
   obtain ⟨b,z,ys,rfl,q1,q2,q3⟩:=q
   exact ⟨b,z,ys,rfl,q1,(ix x' h1).1 z q2,key ys q3⟩
  ·simp only [RT] at q
   obtain ⟨y,zs,rfl,q2,q3⟩:=q
   exact .inl (by simp only [RT]; exact ⟨y,zs,rfl,(ix x' h1).1 y q2,key zs q3⟩)
noncomputable def fitL (r:Nat→Nat) (κ B m:Nat) (a:List V):List V→Bool:=List.rec (motive:=fun _=>List V→Bool) (fun b=>match b with | []=>true | _=>false) (fun x _ ih b=>match b with | []=>false | y::t=>b3 (fitV r κ B m x y) (ih t) true) a
theorem pullL (A:Alt P P' κ B) {a b:List V} (h:fitL r κ B m a b=true) {ys:List Value} (q:RVs P W n b ys):RVs P' (W.via r) m a ys:=by
 induction q generalizing a with
 | nil=>induction a using List.casesOn with
  | nil=>exact .nil
  | cons=>exact ft h
 | @cons y v b vs q qs ih=>induction a using List.casesOn with
  | nil=>exact ft h
  | cons x a=>
   have z:=b3_t (show b3 (fitV r κ B m x y) (fitL r κ B m a b) true=true from h)
   exact .cons ((pullV A x y z.1).1 _ q) (ih z.2.1)
noncomputable def fitOp (r:Nat→Nat) (κ B m:Nat) (a b:Option V):Bool:=match a with
 | none=>true
 | some x=>match b with | some y=>fitV r κ B m x y | none=>false
noncomputable def fitT (r:Nat→Nat) (κ B m:Nat) (a:Tr V):Tr V→Bool:=Tr.rec (motive:=fun _=>Tr V→Bool) (fun _=>true) (fun v _ _ fl fr b=>match b with
 | .nil=>false
 | .node v' l' r'=>b3 (fitOp r κ B m v v') (fl l') (fr r')) a
theorem get_if {α:Type} {v:Option α} {l r:Tr α} {i:Nat} {x:Option α} {G:Prop} (e:(Tr.node v l r).get i=x) (k0:i=0→v=x→G) (k1:i % 2=1→l.get (i / 2)=x→G) (k2:i≠0→i % 2≠1→r.get (i / 2 - 1)=x→G):G:=by
 rw [Tr.get_node] at e
 by_cases h0:i=0
 ·exact k0 h0 ((if_pos h0).symm.trans e)
 ·rw [if_neg h0] at e
  by_cases p:i % 2=1
  ·exact k1 p ((if_pos p).symm.trans e)
  ·exact k2 h0 p ((if_neg p).symm.trans e)
theorem get_0 {α:Type} {v:Option α} {l r:Tr α} {i:Nat} (h:i=0):(Tr.node v l r).get i=v:=by rw [Tr.get_node,if_pos h]
theorem get_1 {α:Type} {v:Option α} {l r:Tr α} {i:Nat} (p:i % 2=1):(Tr.node v l r).get i=l.get (i / 2):=by rw [Tr.get_node,if_neg (fun h=>by rw [h] at p; exact absurd p (by decide)),if_pos p]
theorem get_2 {α:Type} {v:Option α} {l r:Tr α} {i:Nat} (h:i≠0) (p:i % 2≠1):(Tr.node v l r).get i=r.get (i / 2 - 1):=by rw [Tr.get_node,if_neg h,if_neg p]
theorem fitT_get {a:Tr V}:∀ {b:Tr V},fitT r κ B m a b=true→∀ (i:Nat) (v:V),a.get i=some v→∃ v',b.get i=some v'∧fitV r κ B m v v'=true:=by
 induction a with
 | nil=>exact fun _ i v e=>oX e
 | node x l t il it=>
  intro b
  induction b using Tr.casesOn with
  | nil=>exact ft
  | node x' l' t'=>
   intro h i v e
   have z:=b3_t (show b3 (fitOp r κ B m x x') (fitT r κ B m l l') (fitT r κ B m t t')=true from h)
   refine get_if e (fun h0 e=>?_) (fun p e=>?_) (fun h0 p e=>?_)
   ·have h1:=z.1
    rw [e] at h1
    rw [get_0 h0]
    induction x' using Option.casesOn with
    | none=>exact ft h1
    | some y=>exact ⟨y,rfl,h1⟩
   ·rw [get_1 p]; exact il z.2.1 _ v e
   ·rw [get_2 h0 p]; exact it z.2.2 _ v e
noncomputable def keyB (a:V):V→Bool:=V.rec (motive:=fun _=>V→Bool) (fun _=>false) (fun _ _=>false) (fun x b=>match b with | .int y=>iB x y | _=>false) (fun x b=>match b with | .str y=>Nat.beq x y | _=>false)
 (fun _=>false) (fun _ _=>false) (fun _ _=>false) (fun _ _=>false) (fun x b=>match b with | .kd y=>Nat.beq x y | _=>false) (fun _=>false) (fun _=>false) (fun b=>match b with | .tn=>true | _=>false)
 (fun _ _ ix ir b=>match b with | .tc y s=>b3 (ix y) (ir s) true | _=>false) a
theorem keyB_eq:∀ {a b:V},keyB a b=true→a=b:=by
 intro a
 induction a with
 | int x=>intro b; induction b using V.casesOn <;> first | exact ft | (intro h; rw [iB_t (show iB x _=true from h)])
 | str x=>intro b; induction b using V.casesOn <;> first | exact ft | (intro h; rw [beq_t (show Nat.beq x _=true from h)])
 | kd x=>intro b; induction b using V.casesOn <;> first | exact ft | (intro h; rw [beq_t (show Nat.beq x _=true from h)])
 | tn=>intro b; induction b using V.casesOn <;> first | exact ft | exact fun _=>rfl
 | tc x r ix ir=>
  intro b
  induction b using V.casesOn <;> first | exact ft | skip
  intro h
  rename_i y s
  obtain ⟨h1,h2,_⟩:=b3_t (show b3 (keyB x y) (keyB r s) true=true from h)
  rw [ix h1,ir h2]
 | _=>intro b; exact ft
theorem kdOf_alt (A:Alt P P' κ B):∀ k,kdOf P' k=kdOf P k:=by
 intro k
 induction k with
 | str k=>show some (KD.str (P'.nm k))=_; rw [A.nm]; rfl
 | kd j=>show some (KD.int (P'.ka j))=_; rw [A.ka]; rfl
 | tc x r ix ir=>
  show ((kdOf P' x).bind fun a=>(kdOf P' r).map fun b=>KD.tc a b)=_
  rw [ix,ir]; rfl
 | _=>rfl
theorem keyV (hnm:P'.nm=P.nm) (hka:P'.ka=P.ka) (hns:∀ b o,(b,o)∈W.ns→Imm o→(b,o)∈W'.ns):∀ k:V,keyB k k=true→(∀ y,RV P W n k y→RV P' W' n' k y)∧(∀ ys,RT P W n k ys→RT P' W' n' k ys):=by
 intro k
 induction k with
 | int x=>exact fun _=>⟨fun y q=>by simpa only [RV] using q,fun ys q=>by simp only [RT] at q⟩
 | str x=>exact fun _=>⟨fun y q=>by simp only [RV] at q ⊢; rw [hnm]; exact q,fun ys q=>by simp only [RT] at q⟩
 | kd x=>exact fun _=>⟨fun y q=>by simp only [RV] at q ⊢; rw [hka]; exact q,fun ys q=>by simp only [RT] at q⟩
 | tn=>exact fun _=>⟨fun y q=>by simp only [RV] at q ⊢; obtain ⟨b,rfl,q⟩:=q; exact ⟨b,rfl,hns _ _ q (.inl ⟨_,rfl⟩)⟩,fun ys q=>by simpa only [RT] using q⟩
 | tc x r ix ir=>
  intro h
  obtain ⟨h1,h2,_⟩:=b3_t (show b3 (keyB x x) (keyB r r) true=true from h)
  refine ⟨fun y q=>?_,fun ys q=>?_⟩
  ·simp only [RV] at q ⊢
   obtain ⟨b,z,ys,rfl,q1,q2,q3⟩:=q
   exact ⟨b,z,ys,rfl,hns _ _ q1 (.inl ⟨_,rfl⟩),(ix h1).1 z q2,(ir h2).2 ys q3⟩
  ·simp only [RT] at q ⊢
   obtain ⟨y,zs,rfl,q2,q3⟩:=q
   exact ⟨y,zs,rfl,(ix h1).1 y q2,(ir h2).2 zs q3⟩
 | _=>exact ft
theorem keyB_refl {a b:V} (h:keyB a b=true):keyB a a=true:=by have e:=keyB_eq h; rw [← e] at h; exact h
noncomputable def fitD (r:Nat→Nat) (κ B m:Nat) (a:List (V×V)):List (V×V)→Bool:=List.rec (motive:=fun _=>List (V×V)→Bool) (fun b=>match b with | []=>true | _=>false) (fun p _ ih b=>match b with | []=>false | q::t=>b3 (keyB p.1 q.1) (fitV r κ B m p.2 q.2) (ih t)) a
noncomputable def fitN (r:Nat→Nat) (κ B m:Nat) (a:List (Nat×V)):List (Nat×V)→Bool:=List.rec (motive:=fun _=>List (Nat×V)→Bool) (fun b=>match b with | []=>true | _=>false) (fun p _ ih b=>match b with | []=>false | q::t=>b3 (Nat.beq p.1 q.1) (fitV r κ B m p.2 q.2) (ih t)) a
theorem hash_alt (A:Alt P P' κ B) (k:KD):k.hash P'=k.hash P:=by unfold KD.hash; rw [A.w]
theorem pullD (A:Alt P P' κ B) {a b:List (V×V)} (h:fitD r κ B m a b=true) {xs:List Row3} (q:RD P W n b xs):RD P' (W.via r) m a xs:=by
 induction q generalizing a with
 | nil=>induction a using List.casesOn with
  | nil=>exact .nil
  | cons=>exact ft h
 | @cons k' x' c' key v es ds c q1 q2 qs ih=>induction a using List.casesOn with
  | nil=>exact ft h
  | cons p a=>
   obtain ⟨k,x⟩:=p
   have z:=b3_t h
   have e:=keyB_eq z.1
   have e:k=k':=e
   rw [← e] at c q1
   exact .cons (by rw [kdOf_alt A]; exact c) ((keyV (W:=W) (n:=n) (W':=W.via r) A.nm A.ka (fun _ _ z _=>z) k (keyB_refl z.1)).1 _ q1) ((pullV A x _ z.2.1).1 _ q2) (ih z.2.2)
theorem pullN (A:Alt P P' κ B) {a b:List (Nat×V)} (h:fitN r κ B m a b=true) {xs:List DictEntry} (q:RN P W n b xs):RN P' (W.via r) m a xs:=by
 induction q generalizing a with
 | nil=>induction a using List.casesOn with
  | nil=>exact .nil
  | cons=>exact ft h
 | @cons k' x' hh t v es ds q qs ih=>induction a using List.casesOn with
  | nil=>exact ft h
  | cons p a=>
   obtain ⟨k,x⟩:=p
   have z:=b3_t h
   have e:=beq_t z.1
   have e:k=k':=e
   rw [← e,← A.nm]
   exact .cons ((pullV A x _ z.2.1).1 _ q) (ih z.2.2)
noncomputable def fitO (r:Nat→Nat) (κ B m:Nat) (a b:O):Bool:=match a with
 | .list n t=>(match b with | .list n' t'=>b3 (Nat.beq n n') (fitT r κ B m t t') true | _=>false)
 | .dict es=>(match b with | .dict es'=>fitD r κ B m es es' | _=>false)
 | .inst c d=>(match b with | .inst c' d'=>b3 (Nat.beq c c') (Nat.beq (r d) d') (Nat.blt d m) | _=>false)
 | .ns es=>(match b with | .ns es'=>fitN r κ B m es es' | _=>false)
 | .rng x y=>(match b with | .rng x' y'=>b3 (iB x x') (iB y y') true | _=>false)
 | .kt st=>(match b with | .kt st'=>Nat.beq st st' | _=>false)
theorem DOk.alt {es es':List (V×V)} {xs:List Row3} (D:DOk P W n es xs) (f:RD P W n es xs→RD P' W' n' es' xs):DOk P' W' n' es' xs:=⟨f D.rd,D.nod,D.uni,D.len,D.good⟩
theorem ent_alt (A:Alt P P' κ B) (r:Row3):ent P' r=ent P r:=by unfold ent; rw [hash_alt A]
theorem pullO1 (A:Alt P P' κ B) {a b:O} (h:fitO r κ B m a b=true) (hk:∀ st,a≠.kt st) {c:Addr} (q:RO1 P W n b c):RO1 P' (W.via r) m a c:=by
 induction a using O.casesOn with
 | list k t=>
  revert h; induction b using O.casesOn <;> first | exact ft | skip
  intro h
  rename_i k' t'
  obtain ⟨h1,h2,_⟩:=b3_t (show b3 (Nat.beq k k') (fitT r κ B m t t') true=true from h)
  have e:=beq_t h1
  subst e
  obtain ⟨its,ep,q1,q2,q3,q4⟩:=q
  refine ⟨its,ep,q1,q2,q3,fun i v l e=>?_⟩
  obtain ⟨v',e',f⟩:=fitT_get h2 i v e
  obtain ⟨x,g1,g2⟩:=q4 i v' l e'
  exact ⟨x,g1,(pullV A v v' f).1 _ g2⟩
 | dict es=>
  revert h; induction b using O.casesOn <;> first | exact ft | skip
  intro h
  obtain ⟨xs,ep,q1,q2⟩:=q
  refine ⟨xs,ep,?_,q2.alt fun z=>pullD A h z⟩
  rw [show xs.map (ent P')=xs.map (ent P) from List.map_congr_left fun y _=>ent_alt A y]
  exact q1
 | inst k d=>
  revert h; induction b using O.casesOn <;> first | exact ft | skip
  intro h
  rename_i k' d'
  obtain ⟨h1,h2,h3⟩:=b3_t (show b3 (Nat.beq k k') (Nat.beq (r d) d') (Nat.blt d m)=true from h)
  have e1:=beq_t h1
  have e2:=beq_t h2
  subst e1 e2
  refine ⟨blt_t h3,?_⟩
  rw [A.ca]
  exact q.2
 | ns es=>
  revert h; induction b using O.casesOn <;> first | exact ft | skip
  intro h
  obtain ⟨ds,ep,q1,q2,q3⟩:=q
  exact ⟨ds,ep,q1,pullN A h q2,q3⟩
 | rng x y=>
  revert h; induction b using O.casesOn <;> first | exact ft | skip
  intro h
  rename_i x' y'
  obtain ⟨h1,h2,_⟩:=b3_t (show b3 (iB x x') (iB y y') true=true from h)
  have e1:=iB_t h1
  have e2:=iB_t h2
  subst e1 e2
  exact q
 | kt st=>exact absurd rfl (hk st)
noncomputable def isG (q:Nat) (x:V):Bool:=match x with | .glb g=>Nat.beq g q | _=>false
noncomputable def fitE (r:Nat→Nat) (κ B m q:Nat) (a b:Option V):Bool:=match a with
 | none=>true
 | some x=>match b with | some y=>Bool.rec (fitV r κ B m x y) true (isG q x) | none=>false
noncomputable def fitTi (r:Nat→Nat) (κ B m:Nat) (a:Tr V):Tr V→Nat→Nat→Bool:=Tr.rec (motive:=fun _=>Tr V→Nat→Nat→Bool) (fun _ _ _=>true) (fun v _ _ fl fr b q s=>match b with
 | .nil=>false
 | .node v' l' r'=>b3 (fitE r κ B m q v v') (fl l' (Nat.add q s) (Nat.add s s)) (fr r' (Nat.add q (Nat.add s s)) (Nat.add s s))) a
theorem isG_eq {q:Nat} {x:V}:isG q x=true→x=.glb q:=by induction x using V.casesOn <;> first | exact ft | exact fun h=>congrArg V.glb (beq_t h)
theorem idx_odd {q s i:Nat} (p:i % 2=1):q + s + (s + s) * (i / 2)=q + s * i:=by
 obtain ⟨k,rfl⟩:∃ k,i=2 * k + 1:=⟨i / 2,by lia⟩
 rw [show (2 * k + 1) / 2=k by lia,Nat.mul_add,Nat.add_mul,Nat.mul_left_comm,Nat.mul_one]; lia
theorem idx_even {q s i:Nat} (h:i≠0) (p:i % 2≠1):q + (s + s) + (s + s) * (i / 2 - 1)=q + s * i:=by
 obtain ⟨k,rfl⟩:∃ k,i=2 * k + 2:=⟨i / 2 - 1,by lia⟩
 rw [show (2 * k + 2) / 2 - 1=k by lia,Nat.mul_add,Nat.add_mul,Nat.mul_left_comm]; lia
theorem fitTi_get {a:Tr V}:∀ {b:Tr V} {q s:Nat},fitTi r κ B m a b q s=true→∀ (i:Nat) (v:V),a.get i=some v→∃ v',b.get i=some v'∧(fitV r κ B m v v'=true∨v=.glb (q + s * i)):=by
 induction a with
 | nil=>exact fun _ i v e=>oX e
 | node x l t il it=>
  intro b
  induction b using Tr.casesOn with
  | nil=>exact ft
  | node x' l' t'=>
   intro q s h i v e
   have z:=b3_t (show b3 (fitE r κ B m q x x') (fitTi r κ B m l l' (q + s) (s + s)) (fitTi r κ B m t t' (q + (s + s)) (s + s))=true from h)
   refine get_if e (fun h0 e=>?_) (fun p e=>?_) (fun h0 p e=>?_)
   ·have h1:=z.1
    rw [e] at h1
    rw [get_0 h0]
    induction x' using Option.casesOn with
    | none=>exact ft h1
    | some y=>
     refine ⟨y,rfl,?_⟩
     have h1:(Bool.rec (fitV r κ B m v y) true (isG q v):Bool)=true:=h1
     induction w:isG q v using Bool.casesOn with
     | true=>rw [h0,Nat.mul_zero]; exact .inr (isG_eq w)
     | false=>rw [w] at h1; exact .inl h1
   ·rw [get_1 p,← idx_odd p]; exact il z.2.1 _ v e
   ·rw [get_2 h0 p,← idx_even h0 p]; exact it z.2.2 _ v e
noncomputable def fitOi (r:Nat→Nat) (κ B m x:Nat) (a b:O):Bool:=match a with
 | .list n t=>(match b with | .list n' t'=>b3 (Nat.beq n n') (fitTi r κ B m t t' (Nat.add 2001 (Nat.mul 2000 x)) 2) (Nat.ble n 1000) | _=>false)
 | a=>fitO r κ B m a b
noncomputable def closO (a:O):Bool:=fitO (fun x=>x) 1000 0 0 a a
theorem Alt.zero (A:Alt P P' κ B):Alt P P' κ 0:=⟨A.prog,A.w,A.ka,A.nm,A.ca,A.kt,fun g h=>absurd h (Nat.not_lt_zero _),A.io⟩
theorem closO_mono (A:Alt P P' 1000 B) {a:O} (h:closO a=true) (hk:∀ st,a≠.kt st) (hns:∀ p,p∈W.ns→p∈W'.ns) {c:Addr} (q:RO1 P W n a c):RO1 P' W' n' a c:=by
 have z:=pullO1 A.zero h hk q
 have L:Le (W.via fun x=>x) W' 0 n':=⟨Nat.zero_le _,fun a l=>absurd l (Nat.not_lt_zero _),fun b o _ m=>hns _ m⟩
 exact z.mono L fun x m=>hns _ m
theorem Alt.loose (A:Alt P P' κ B):Alt P P' 1000 B:=⟨A.prog,A.w,A.ka,A.nm,A.ca,A.kt,A.gv,fun h=>absurd h (Nat.lt_irrefl _)⟩
theorem Alt.back (A:Alt P P' κ B):Alt P' P 1000 B:=⟨A.prog.symm,A.w.symm,A.ka.symm,A.nm.symm,A.ca.symm,A.kt.symm,fun g h=>(A.gv g h).symm,fun h=>absurd h (Nat.lt_irrefl _)⟩
noncomputable def KtOk (P:Pm):Prop:=∀ st,closO (P.kt st)=true
theorem kt_un {P:Pm} (K:KtOk P) (st:Nat):∀ q,P.kt st≠.kt q∨P.kt st=.kt q:=fun q=>by by_cases h:P.kt st=.kt q <;> simp [h]
theorem ro1_kt {o:O} {c:Addr} (q:RO1 P W n o c):∀ st,o≠.kt st:=by rintro st rfl; exact q.elim
theorem pullO (A:Alt P P' κ B) (K:KtOk P) {a b:O} (h:fitO r κ B m a b=true) {c:Addr} (q:RO P W n b c):RO P' (W.via r) m a c:=by
 induction a using O.casesOn with
 | kt st=>
  revert h; induction b using O.casesOn <;> first | exact ft | skip
  intro h
  have e:=beq_t (show Nat.beq st _=true from h)
  subst e
  show RO1 P' (W.via r) m (P'.kt st) c
  rw [A.kt]
  exact closO_mono (W:=W) (n:=n) (W':=W.via r) (n':=m) A.loose (K st) (ro1_kt (show RO1 P W n (P.kt st) c from q)) (fun _ z=>z) q
 | _=>
  revert h; induction b using O.casesOn <;> first | exact ft | exact fun h=>pullO1 A h nofun q
theorem pullOi (A:Alt P P' κ B) (K:KtOk P) {x:Nat} {a b:O} (h:fitOi r κ B m x a b=true) {c:Addr} (hl:∀ its ep i y,(c,listOf its ep)∈W.ns→i < 1000→its[i]?=some y→y=P'.gv (2001 + 2000 * x + 2 * i)) (q:RO P W n b c):RO P' (W.via r) m a c:=by
 induction a using O.casesOn with
 | list k t=>
  revert h; induction b using O.casesOn <;> first | exact ft | skip
  intro h
  rename_i k' t'
  obtain ⟨h1,h2,h3⟩:=b3_t (show b3 (Nat.beq k k') (fitTi r κ B m t t' (2001 + 2000 * x) 2) (Nat.ble k 1000)=true from h)
  have e:=beq_t h1
  subst e
  have h3:=Nat.le_of_ble_eq_true h3
  obtain ⟨its,ep,q1,q2,q3,q4⟩:=q
  refine ⟨its,ep,q1,q2,q3,fun i v l e=>?_⟩
  obtain ⟨v',e',f⟩:=fitTi_get h2 i v e
  obtain ⟨y,g1,g2⟩:=q4 i v' l e'
  rcases f with f | rfl
  ·exact ⟨y,g1,(pullV A v v' f).1 _ g2⟩
  ·refine ⟨y,g1,?_⟩
   simp only [RV]
   exact hl its ep i y q1 (by lia) g1
 | dict es=>exact pullO (a:=.dict es) A K h q
 | inst k d=>exact pullO (a:=.inst k d) A K h q
 | ns es=>exact pullO (a:=.ns es) A K h q
 | rng u v=>exact pullO (a:=.rng u v) A K h q
 | kt st=>exact pullO (a:=.kt st) A K h q
end
end Mine
namespace Mine
noncomputable section
noncomputable def renV (r:Nat→Nat) (lv:Nat→V) (v:V):V:=V.rec (motive:=fun _=>V) .none (fun b=>.bool b) (fun i=>.int i) (fun k=>.str k) .dyn (fun a=>.ref (r a)) (fun g=>match Nat.blt g 1000 with | true=>.glb g | false=>lv g) (fun _=>.bad) (fun j=>.kd j) .bad .ub .tn (fun _ _ ix ir=>.tc ix ir) v
noncomputable def mapT (f:V→V) (t:Tr V):Tr V:=Tr.rec (motive:=fun _=>Tr V) .nil (fun v _ _ l r=>.node (Option.rec none (fun x=>some (f x)) v) l r) t
noncomputable def renD (r:Nat→Nat) (lv:Nat→V) (l:List (V×V)):List (V×V):=List.rec [] (fun p _ ih=>(p.1,renV r lv p.2)::ih) l
noncomputable def renN (r:Nat→Nat) (lv:Nat→V) (l:List (Nat×V)):List (Nat×V):=List.rec [] (fun p _ ih=>(p.1,renV r lv p.2)::ih) l
noncomputable def renO (r:Nat→Nat) (lv:Nat→V) (o:O):O:=match o with
 | .list n t=>.list n (mapT (renV r lv) t)
 | .dict es=>.dict (renD r lv es)
 | .inst c d=>.inst c (r d)
 | .ns es=>.ns (renN r lv es)
 | .rng x y=>.rng x y
 | .kt st=>.kt st
variable {P P':Pm} {W W' W'':Wd} {n n' m κ B:Nat} {r:Nat→Nat} {lv:Nat→V}
theorem pushV (A:Alt P P' κ B) (hB:1000≤B) (hg:∀ g,1000≤g→RV P W'' n' (lv g) (P'.gv g)) (hs:∀ a,a < n→r a < n'∧W''.si (r a)=W'.si a) (hns:W''.ns=W'.ns):∀ v:V,(∀ y,RV P' W' n v y→RV P W'' n' (renV r lv v) y)∧(∀ ys,RT P' W' n v ys→RT P W'' n' (renV r lv v) ys):=by
 intro v
 induction v with
 | ref a=>exact ⟨fun y q=>by simp only [RV] at q; show RV P W'' n' (.ref (r a)) y; simp only [RV]; exact ⟨(hs a q.1).1,by rw [(hs a q.1).2]; exact q.2⟩,fun ys q=>by simp only [RT] at q⟩
 | glb g=>
  refine ⟨fun y q=>?_,fun ys q=>by simp only [RT] at q⟩
  show RV P W'' n' (match Nat.blt g 1000 with | true=>.glb g | false=>lv g) y
  simp only [RV] at q
  induction w:Nat.blt g 1000 using Bool.casesOn with
  | true=>simp only [RV]; rw [← A.gv g (Nat.lt_of_lt_of_le (blt_t w) hB)]; exact q
  | false=>rw [q]; exact hg g (by rw [blt_eq,decide_eq_false_iff_not] at w; lia)
 | si e=>exact ⟨fun y q=>by show RV P W'' n' .bad y; simp only [RV],fun ys q=>by simp only [RT] at q⟩
 | str k=>exact ⟨fun y q=>by show RV P W'' n' (.str k) y; simp only [RV] at q ⊢; rw [← A.nm]; exact q,fun ys q=>by simp only [RT] at q⟩
 | kd k=>exact ⟨fun y q=>by show RV P W'' n' (.kd k) y; simp only [RV] at q ⊢; rw [← A.ka]; exact q,fun ys q=>by simp only [RT] at q⟩
 | none=>exact ⟨fun y q=>by show RV P W'' n' .none y; simp only [RV] at q ⊢; exact q,fun ys q=>by simp only [RT] at q⟩
 | bool b=>exact ⟨fun y q=>by show RV P W'' n' (.bool b) y; simp only [RV] at q ⊢; exact q,fun ys q=>by simp only [RT] at q⟩
 | int b=>exact ⟨fun y q=>by show RV P W'' n' (.int b) y; simp only [RV] at q ⊢; exact q,fun ys q=>by simp only [RT] at q⟩
 | dyn=>exact ⟨fun y q=>by show RV P W'' n' .dyn y; simp only [RV] at q ⊢; exact q,fun ys q=>by simp only [RT] at q⟩
 | bad=>exact ⟨fun y q=>by show RV P W'' n' .bad y; simp only [RV],fun ys q=>by simp only [RT] at q⟩
 | ub=>exact ⟨fun y q=>by simp only [RV] at q,fun ys q=>by simp only [RT] at q⟩
 | tn=>exact ⟨fun y q=>by show RV P W'' n' .tn y; simp only [RV] at q ⊢; rw [hns]; exact q,fun ys q=>by show RT P W'' n' .tn ys; simp only [RT] at q ⊢; exact q⟩
 | tc x t ix it=>
  refine ⟨fun y q=>?_,fun ys q=>?_⟩
  ·show RV P W'' n' (.tc (renV r lv x) (renV r lv t)) y
   refine pL fun G0 hG0=>?_
   simp only [RV] at q ⊢
   obtain ⟨b,z,zs,rfl,q1,q2,q3⟩:=q
   refine hG0 ?_
   exact ⟨b,z,zs,rfl,by rw [hns]; exact q1,ix.1 z q2,it.2 zs q3⟩
  ·show RT P W'' n' (.tc (renV r lv x) (renV r lv t)) ys
   refine pL fun G0 hG0=>?_
   simp only [RT] at q ⊢
   obtain ⟨z,zs,rfl,q2,q3⟩:=q
   refine hG0 ?_
   exact ⟨z,zs,rfl,ix.1 z q2,it.2 zs q3⟩
theorem mapT_get (f:V→V):∀ (t:Tr V) (i:Nat),(mapT f t).get i=(t.get i).map f
 | .nil,i=>rfl
 | .node v l r,i=>by
  show (Tr.node (Option.rec none (fun x=>some (f x)) v) (mapT f l) (mapT f r)).get i=_
  rw [Tr.get_node,Tr.get_node]
  by_cases h0:i=0
  ·rw [if_pos h0,if_pos h0]; cases v <;> rfl
  ·rw [if_neg h0,if_neg h0]
   by_cases p:i % 2=1
   ·rw [if_pos p,if_pos p]; exact mapT_get f l _
   ·rw [if_neg p,if_neg p]; exact mapT_get f r _
theorem iB_refl (i:Int):iB i i=true:=by rw [iB_eq]; exact decide_eq_true rfl
theorem beq_refl' (i:Nat):Nat.beq i i=true:=by rw [beqD]; exact decide_eq_true rfl
theorem kd_key:∀ {k:V} {c:KD},kdOf P k=some c→keyB k k=true:=by
 intro k
 induction k with
 | int x=>intro c h; exact iB_refl x
 | str x=>intro c h; exact beq_refl' x
 | kd x=>intro c h; exact beq_refl' x
 | tn=>intro c h; rfl
 | tc x t ix it=>
  intro c h
  have h:((kdOf P x).bind fun a=>(kdOf P t).map fun b=>KD.tc a b)=some c:=h
  induction q1:kdOf P x using Option.casesOn with
  | none=>rw [q1] at h; exact oX h
  | some a=>
   induction q2:kdOf P t using Option.casesOn with
   | none=>rw [q1,q2] at h; exact oX h
   | some b=>
    show b3 (keyB x x) (keyB t t) true=true
    rw [ix q1,it q2]; rfl
 | _=>intro c h; exact oX h
theorem pushD (A:Alt P P' κ B) (hB:1000≤B) (hg:∀ g,1000≤g→RV P W'' n' (lv g) (P'.gv g)) (hs:∀ a,a < n→r a < n'∧W''.si (r a)=W'.si a) (hns:W''.ns=W'.ns) {a:List (V×V)} {xs:List Row3} (q:RD P' W' n a xs):RD P W'' n' (renD r lv a) xs:=by
 induction q with
 | nil=>exact .nil
 | @cons k x c key v es ds c1 q1 q2 _ ih=>
  exact .cons (by rw [← kdOf_alt A]; exact c1) ((keyV (W:=W') (n:=n) (W':=W'') (P:=P') (P':=P) A.nm.symm A.ka.symm (fun _ _ z _=>hns▸z) k (kd_key c1)).1 _ q1) ((pushV A hB hg hs hns x).1 _ q2) ih
theorem pushN (A:Alt P P' κ B) (hB:1000≤B) (hg:∀ g,1000≤g→RV P W'' n' (lv g) (P'.gv g)) (hs:∀ a,a < n→r a < n'∧W''.si (r a)=W'.si a) (hns:W''.ns=W'.ns) {a:List (Nat×V)} {xs:List DictEntry} (q:RN P' W' n a xs):RN P W'' n' (renN r lv a) xs:=by
 induction q with
 | nil=>exact .nil
 | @cons k x hh t v es ds q1 _ ih=>
  rw [A.nm]
  exact .cons ((pushV A hB hg hs hns x).1 _ q1) ih
theorem pushO1 (A:Alt P P' κ B) (hB:1000≤B) (hg:∀ g,1000≤g→RV P W'' n' (lv g) (P'.gv g)) (hs:∀ a,a < n→r a < n'∧W''.si (r a)=W'.si a) (hns:W''.ns=W'.ns) {o:O} {c:Addr} (q:RO1 P' W' n o c):RO1 P W'' n' (renO r lv o) c:=by
 induction o using O.casesOn with
 | list k t=>
  refine pL fun G0 hG0=>?_
  obtain ⟨its,ep,q1,q2,q3,q4⟩:=q
  refine hG0 ?_
  refine ⟨its,ep,hns▸q1,q2,q3,fun i v l e=>?_⟩
  rw [mapT_get] at e
  induction w:t.get i using Option.casesOn with
  | none=>rw [w] at e; exact oX e
  | some u=>
   rw [w] at e
   (obtain rfl:=Option.some.inj e)
   obtain ⟨x,g1,g2⟩:=q4 i u l w
   exact ⟨x,g1,(pushV A hB hg hs hns u).1 _ g2⟩
 | dict es=>
  refine pL fun G0 hG0=>?_
  obtain ⟨xs,ep,q1,q2⟩:=q
  refine hG0 ?_
  refine ⟨xs,ep,?_,q2.alt fun z=>pushD A hB hg hs hns z⟩
  rw [show xs.map (ent P)=xs.map (ent P') from List.map_congr_left fun y _=>(ent_alt A y).symm,hns]
  exact q1
 | inst k d=>exact ⟨(hs d q.1).1,by rw [(hs d q.1).2,hns,← A.ca]; exact q.2⟩
 | ns es=>obtain ⟨ds,ep,q1,q2,q3⟩:=q; exact ⟨ds,ep,hns▸q1,pushN A hB hg hs hns q2,q3⟩
 | rng x y=>obtain ⟨t,u,v,q⟩:=q; exact ⟨t,u,v,hns▸q⟩
 | kt st=>exact q.elim
theorem pushO (A:Alt P P' κ B) (K:KtOk P) (hB:1000≤B) (hg:∀ g,1000≤g→RV P W'' n' (lv g) (P'.gv g)) (hs:∀ a,a < n→r a < n'∧W''.si (r a)=W'.si a) (hns:W''.ns=W'.ns) {o:O} {c:Addr} (q:RO P' W' n o c):RO P W'' n' (renO r lv o) c:=by
 induction o using O.casesOn with
 | kt st=>
  have q:RO1 P' W' n (P'.kt st) c:=q
  rw [A.kt] at q
  exact closO_mono (W:=W') (n:=n) (W':=W'') (n':=n') A.back (K st) (ro1_kt q) (fun _ z=>hns▸z) q
 | _=>exact pushO1 A hB hg hs hns q
structure Lift (h h'' hs hp:Hp) (r r':Nat→Nat) (lv:Nat→V):Prop where
 lo:∀ i,i < hs.n→r' i=r i
 hi:∀ i,hs.n≤i→r' i=h.n + (i - hs.n)
 rl:∀ i,i < hs.n→r i < h.n
 inj:∀ i j,i < hs.n→j < hs.n→r i=r j→i=j
 n:h''.n=h.n + (hp.n - hs.n)
 le:hs.n≤hp.n
 lid:h''.n≤16000000
 rs:h''.rs=h.rs
 wr:∀ a∈h.wr,a∈h''.wr
 wr2:∀ i∈hp.wr,i < hs.n→r i∈h''.wr
 wl:∀ a∈h''.wr,a < h''.n
 obj:∀ a o,h''.t.get a=some o→(∃ i o1,hp.t.get i=some o1∧a=r' i∧o=renO r' lv o1)∨(h.t.get a=some o∧∀ i∈hp.wr,i < hs.n→r i≠a)
variable {h h'' hs hp:Hp} {r':Nat→Nat}
noncomputable def Wd.out (W W':Wd) (k m:Nat):Wd:=⟨fun a=>if a < k then W.si a else W'.si (m + (a - k)),W'.ns⟩
theorem lift_ok (A:Alt P P' κ B) (K:KtOk P) (hB:1000≤B) (hg:∀ g,1000≤g→RV P W h.n (lv g) (P'.gv g)) (L:Lift h h'' hs hp r r' lv) (rel:Rel P W h) (X:Ext (W.via r) W' hs hp) (rel':Rel P' W' hp) (hres:∀ p∈h.rs,Int.fmod (Int.fdiv (P.io p.1.1) p.1.2.1) p.1.2.2=p.2) :
  Rel P (W.out W' h.n hs.n) h''∧Ext W (W.out W' h.n hs.n) h h''∧∀ v y,RV P' W' hp.n v y→RV P (W.out W' h.n hs.n) h''.n (renV r' lv v) y:=by
 have old:∀ a,a < h.n→(W.out W' h.n hs.n).si a=W.si a:=fun a l=>if_pos l
 have new:∀ a,h.n≤a→(W.out W' h.n hs.n).si a=W'.si (hs.n + (a - h.n)):=fun a l=>if_neg (Nat.not_lt.mpr l)
 have hsr:∀ a,a < hp.n→r' a < h''.n∧(W.out W' h.n hs.n).si (r' a)=W'.si a:=by
  intro a l
  have hn:=L.n
  have le:=L.le
  by_cases q:a < hs.n
  ·rw [L.lo a q]
   have:=L.rl a q
   exact ⟨by lia,by rw [old _ this]; exact (X.L.si a q).symm⟩
  ·rw [L.hi a (by lia)]
   refine ⟨by lia,?_⟩
   rw [new _ (by lia),show hs.n + (h.n + (a - hs.n) - h.n)=a by lia]
 have dom0:∀ a,a < h.n→W.si a∈W'.ns.map (·.1):=fun a l=>X.dom _ (rel.dom a l)
 have nw:∀ i,hs.n≤i→i < hp.n→W'.si i∉W.ns.map (·.1):=fun i a b=>X.new i a b
 have keep:∀ b o,(b,o)∈W.ns→(∀ i∈h''.wr,(W.out W' h.n hs.n).si i≠b)→(b,o)∈W'.ns:=by
  intro b o hb k
  refine X.keep b o hb fun i hi e=>?_
  by_cases q:i < hs.n
  ·have e1:W'.si i=W.si (r i):=X.L.si i q
   exact k (r i) (L.wr2 i hi q) (by rw [old _ (L.rl i q),← e1]; exact e)
  ·exact nw i (by lia) (rel'.wr i hi) (e▸mem_fst hb)
 have LL:Le W (W.out W' h.n hs.n) h.n h''.n:=⟨by rw [L.n]; lia,fun a l=>old a l,fun b o i m=>X.L.imm b o i m⟩
 have hg:∀ g,1000≤g→RV P (W.out W' h.n hs.n) h''.n (lv g) (P'.gv g):=fun g l=>(hg g l).mono LL
 refine ⟨⟨rel'.nod,?_,?_,?_,by rw [L.rs]; exact rel.res,L.wl,rel'.low,rel'.non,L.lid⟩,⟨LL,L.rs,L.wr,X.dom,?_,keep⟩,fun v y q=>(pushV A hB hg hsr rfl v).1 y q⟩
 ·intro a b la lb e
  have hn:=L.n
  have le:=L.le
  by_cases qa:a < h.n <;> by_cases qb:b < h.n
  ·rw [old a qa,old b qb] at e; exact rel.inj a b qa qb e
  ·rw [old a qa,new b (by lia)] at e
   exact absurd (e▸rel.dom a qa) (nw _ (by lia) (by lia))
  ·rw [new a (by lia),old b qb] at e
   exact absurd (e.symm▸rel.dom b qb) (nw _ (by lia) (by lia))
  ·rw [new a (by lia),new b (by lia)] at e
   have:=rel'.inj _ _ (by lia) (by lia) e
   lia
 ·intro a o e
  rcases L.obj a o e with ⟨i,o1,e1,rfl,rfl⟩ | ⟨e1,k⟩
  ·obtain ⟨z1,z2⟩:=rel'.obj i o1 e1
   obtain ⟨y1,y2⟩:=hsr i z1
   exact ⟨y1,by rw [y2]; exact pushO A K hB hg hsr rfl z2⟩
  ·obtain ⟨z1,z2⟩:=rel.obj a o e1
   refine ⟨by rw [L.n]; lia,?_⟩
   rw [old a z1]
   refine z2.mono LL fun x hx=>?_
   refine X.keep _ x hx fun i hi e=>?_
   by_cases q:i < hs.n
   ·have e1:W'.si i=W.si (r i):=X.L.si i q
    exact k i hi q (rel.inj _ _ (L.rl i q) z1 (e1▸e))
   ·exact nw i (by lia) (rel'.wr i hi) (e▸mem_fst hx)
 ·intro a l
  have hn:=L.n
  by_cases q:a < h.n
  ·rw [old a q]; exact dom0 a q
  ·rw [new a (by lia)]; exact rel'.dom _ (by lia)
 ·intro i a b
  have hn:=L.n
  rw [new i a]
  exact nw _ (by lia) (by lia)
end
end Mine
namespace Mine
noncomputable section
noncomputable def Pm.alt (P:Pm) (io raw:Nat→Int) (ge:Nat→Value):Pm:={ P with io:=io,raw:=raw,gv:=fun g=>if g < 1000 then P.gv g else ge g }
noncomputable def Num (io raw:Nat→Int):Prop:=∀ k,io k=Int.fmod (raw k) 1000000007
variable {P P':Pm} {C:Cx} {W W' W'':Wd} {n n' m κ d:Nat} {lv:Nat→V} {r r':Nat→Nat} {h h'' hs hp:Hp} {env:List V} {s:Shared} {io raw:Nat→Int} {ge:Nat→Value}
theorem POk.alt (k:POk P) (hn:Num io raw):POk (P.alt io raw ge):=⟨hn,k.ka0,k.kai,k.nmi,k.nml,k.nmk⟩
theorem alt_of (κ:Nat) (raw:Nat→Int) (ge:Nat→Value):Alt P (P.alt (fun _=>P.io κ) raw ge) κ 1000:=⟨rfl,rfl,rfl,rfl,rfl,rfl,fun g l=>if_pos l,fun _=>rfl⟩
theorem Cx.Ok.alt (ok:C.Ok P d) (hn:Num io raw):C.Ok (P.alt io raw ge) d:=⟨ok.pok.alt hn,ok.below,ok.frames,ok.x,ok.t,ok.depth,ok.units,ok.handled,ok.kind,ok.nod,ok.loc,ok.cel,ok.dbg⟩
noncomputable def Loose (env:List V):Prop:=∀ (i:Nat) (w:V),env[i]?=some w→w≠.ub→∃ g,w=.glb g
noncomputable def SndCt (P:Pm) (d f:Nat) (as:List V) (hs hp:Hp) (v:V):Prop:=
 ∀ C:Cx,C.Ok P d→∀ W env s vs Q E,Loose env→St P C W hs env s→RVs P W hs.n as vs→Go P C W hs env hp v Q→codeAny (Cx.M P) C.A (.call (.ref (P.fa f)) ⟨vs,[]⟩) (Ret Q E) s
noncomputable def SndCtA (P:Pm) (d f:Nat) (as:List V) (hs hp:Hp) (v:V):Prop:=∀ io raw ge,Num io raw→SndCt (P.alt io raw ge) d f as hs hp v
noncomputable def loosen:Nat→List V→List V
 | _,[]=>[]
 | k,.ub::l=>.ub::loosen (k + 1) l
 | k,_::l=>.glb (1000 + 2 * k)::loosen (k + 1) l
theorem loosen_get:∀ (l:List V) (k i:Nat) (v:V),l[i]?=some v→v≠.ub→(loosen k l)[i]?=some (.glb (1000 + 2 * (k + i)))
 | [],_,i,v,e,_=>by exact oX e
 | x::l,k,0,v,e,h=>by
  (obtain rfl:=Option.some.inj e)
  cases x <;> first | rfl | exact absurd rfl h
 | x::l,k,i + 1,v,e,h=>by
  have z:=loosen_get l (k + 1) i v e h
  rw [show k + 1 + i=k + (i + 1) by lia] at z
  cases x <;> exact z
theorem loosen_back:∀ (l:List V) (k i:Nat) (w:V),(loosen k l)[i]?=some w→w≠.ub→∃ v,l[i]?=some v∧v≠.ub∧w=.glb (1000 + 2 * (k + i))
 | [],_,i,v,e,_=>by exact oX e
 | x::l,k,0,w,e,h=>by
  cases x <;> first | ((obtain rfl:=Option.some.inj e); exact absurd rfl h) | exact ⟨_,rfl,nofun,by (obtain rfl:=Option.some.inj e); rfl⟩
 | x::l,k,i + 1,w,e,h=>by
  have e':(loosen (k + 1) l)[i]?=some w:=by cases x <;> exact e
  obtain ⟨v,a,b,c⟩:=loosen_back l (k + 1) i w e' h
  exact ⟨v,a,b,by rw [c,show k + 1 + i=k + (i + 1) by lia]⟩
theorem env_vals {env:List V} {n:Nat} {cl:List (Str×Addr)} {names:List Str} {m:Str→Option Value} (E:EnvR P W n cl names env m):∃ ge:Nat→Value,∀ (i:Nat) (x:Str) (v:V),names[i]?=some x→env[i]?=some v→v≠.ub→VarAt W cl m x (ge (1000 + 2 * i))∧RV P W n v (ge (1000 + 2 * i)):=by
 have h:∀ i:Nat,∃ y:Value,∀ (x:Str) (v:V),names[i]?=some x→env[i]?=some v→v≠.ub→VarAt W cl m x y∧RV P W n v y:=by
  intro i
  induction q1:names[i]? using Option.casesOn with
  | none=>exact ⟨.none,fun _ _ e=>(nomatch e)⟩
  | some x=>
   induction q2:env[i]? using Option.casesOn with
   | none=>exact ⟨.none,fun _ _ _ e=>(nomatch e)⟩
   | some v=>
    by_cases q3:v=.ub
    ·exact ⟨.none,fun _ _ _ e n=>by (obtain rfl:=Option.some.inj e); exact absurd q3 n⟩
    ·obtain ⟨y,a,b⟩:=E i x v q1 q2 q3
     exact ⟨y,fun _ _ e e' _=>by (obtain rfl:=Option.some.inj e); (obtain rfl:=Option.some.inj e'); exact ⟨a,b⟩⟩
 obtain ⟨f,hf⟩:=Classical.axiomOfChoice h
 exact ⟨fun k=>f ((k - 1000) / 2),fun i x v a b c=>by show VarAt W cl m x (f ((1000 + 2 * i - 1000) / 2))∧RV P W n v (f ((1000 + 2 * i - 1000) / 2)); rw [show (1000 + 2 * i - 1000) / 2=i by lia]; exact hf i x v a b c⟩
structure Fits (κ:Nat) (r:Nat→Nat) (hs h:Hp):Prop where
 rl:∀ i,i < hs.n→r i < h.n
 inj:∀ i j,i < hs.n→j < hs.n→r i=r j→i=j
 obj:∀ i o,hs.t.get i=some o→i < hs.n∧∃ o',h.t.get (r i)=some o'∧fitOi r κ 1000 hs.n i o o'=true
 rs:hs.rs=[]
 wr:hs.wr=[]
 lid:hs.n≤16000000
theorem Fits.rel (F:Fits κ r hs h) (A:Alt P P' κ 1000) (K:KtOk P) (hl:∀ a its ep i y,(W.si (r a),listOf its ep)∈W.ns→i < 1000→its[i]?=some y→y=P'.gv (2001 + 2000 * a + 2 * i)) (rel:Rel P W h):Rel P' (W.via r) hs:=by
 refine ⟨rel.nod,fun a b la lb e=>F.inj a b la lb (rel.inj _ _ (F.rl a la) (F.rl b lb) e),fun a o e=>?_,fun a l=>rel.dom _ (F.rl a l),fun p hp=>?_,fun a ha=>?_,rel.low,rel.non,F.lid⟩
 ·obtain ⟨l,o',e',f⟩:=F.obj a o e
  exact ⟨l,pullOi A K f (hl a) (rel.obj _ _ e').2⟩
 ·rw [F.rs] at hp; cases hp
 ·rw [F.wr] at ha; cases ha
noncomputable def lvOf (r:Nat→Nat) (h:Hp) (g:Nat):V:=Bool.rec .bad (match h.t.get (r (Nat.div (Nat.sub g 2001) 2000)) with
 | some o=>(match o with | .list n t=>Bool.rec .bad (match t.get (Nat.div (Nat.mod (Nat.sub g 2001) 2000) 2) with | some v=>v | none=>.bad) (Nat.blt (Nat.div (Nat.mod (Nat.sub g 2001) 2000) 2) n) | _=>.bad)
 | none=>.bad) (Nat.beq (Nat.mod g 2) 1)
theorem rv_bad {x:Value}:RV P W n .bad x:=by simp only [RV]
theorem loose_of (rel:Rel P W h) (r:Nat→Nat) (ge:Nat→Value):∃ ge':Nat→Value,(∀ i,ge' (1000 + 2 * i)=ge (1000 + 2 * i))∧(∀ a its ep i y,(W.si (r a),listOf its ep)∈W.ns→i < 1000→its[i]?=some y→y=ge' (2001 + 2000 * a + 2 * i))∧∀ g,1000≤g→RV P W h.n (lvOf r h g) (ge' g):=by
 have hL:∀ b:Addr,∃ its:Array Value,∀ its' ep,(b,listOf its' ep)∈W.ns→its'=its:=by
  intro b
  by_cases q:∃ its ep,(b,listOf its ep)∈W.ns
  ·obtain ⟨its,ep,m⟩:=q
   exact ⟨its,fun its' ep' m'=>by
    have e:=nod_eq rel.nod m' m
    injection e with _ _ e
    injection e⟩
  ·exact ⟨#[],fun its' ep m=>absurd ⟨its',ep,m⟩ q⟩
 obtain ⟨L,hL⟩:=Classical.axiomOfChoice hL
 refine ⟨fun g=>if g % 2=1 then ((L (W.si (r ((g - 2001) / 2000))))[(g - 2001) % 2000 / 2]?).getD .none else ge g,fun i=>if_neg (by lia),fun a its ep i y m hi e=>?_,fun g hg=>?_⟩
 ·show y=if (2001 + 2000 * a + 2 * i) % 2=1 then _ else _
  rw [if_pos (by lia),show (2001 + 2000 * a + 2 * i - 2001) / 2000=a by lia,show (2001 + 2000 * a + 2 * i - 2001) % 2000 / 2=i by lia,← hL _ its ep m,e]
  rfl
 ·show RV P W h.n (lvOf r h g) (if g % 2=1 then _ else _)
  unfold lvOf
  rw [beqD]
  by_cases q:g % 2=1
  ·rw [decide_eq_true (show Nat.mod g 2=1 from q),if_pos q]
   show RV P W h.n (match h.t.get (r ((g - 2001) / 2000)) with | some o=>_ | none=>.bad) _
   induction q1:h.t.get (r ((g - 2001) / 2000)) using Option.casesOn with
   | none=>exact rv_bad
   | some o=>
    induction o using O.casesOn with
    | list n t=>
     show RV P W h.n (Bool.rec .bad (match t.get ((g - 2001) % 2000 / 2) with | some v=>v | none=>.bad) (Nat.blt ((g - 2001) % 2000 / 2) n)) _
     rw [blt_eq]
     by_cases q2:(g - 2001) % 2000 / 2 < n
     ·rw [decide_eq_true q2]
      show RV P W h.n (match t.get ((g - 2001) % 2000 / 2) with | some v=>v | none=>.bad) _
      induction q3:t.get ((g - 2001) % 2000 / 2) using Option.casesOn with
      | none=>exact rv_bad
      | some v=>
       refine pL fun G0 hG0=>?_
       obtain ⟨its,ep,m,_,_,h4⟩:=(rel.obj _ _ q1).2
       obtain ⟨x,e1,e2⟩:=h4 _ v q2 q3
       refine hG0 ?_
       rw [← hL _ its ep m,e1]
       exact e2
     ·rw [decide_eq_false q2]; exact rv_bad
    | _=>exact rv_bad
  ·rw [decide_eq_false (show ¬ Nat.mod g 2=1 from q)]; exact rv_bad
theorem frame_call {f:Nat} {as args:List V} {v:V} (K:KtOk P) (ct:SndCtA P d f as hs hp v) (F:Fits κ r hs h) (L:Lift h h'' hs hp r r' (lvOf r h)) (ha:fitL r κ 1000 hs.n as args=true)
  (ok:C.Ok P d) (hnum:Num P.io P.raw) {vs:List Value} {Q:Value→Shared→Prop} {E:Value→Shared→Prop} (S:St P C W h env s) (ra:RVs P W h.n args vs) (g:Go P C W h env h'' (renV r' (lvOf r h) v) Q) :
  codeAny (Cx.M P) C.A (.call (.ref (P.fa f)) ⟨vs,[]⟩) (Ret Q E) s:=by
 refine pL fun G0 hG0=>?_
 obtain ⟨m,Fm,Em⟩:=S.fr
 obtain ⟨ge0,hge0⟩:=env_vals Em
 obtain ⟨ge,hlo,hl1,hl2⟩:=loose_of S.rel r ge0
 refine hG0 ?_
 have hge:∀ (i:Nat) (x:Str) (v:V),C.names[i]?=some x→env[i]?=some v→v≠.ub→VarAt W C.cl m x (ge (1000 + 2 * i))∧RV P W h.n v (ge (1000 + 2 * i)):=fun i x v a b c=>by rw [hlo]; exact hge0 i x v a b c
 have hn:Num (fun _=>P.io κ) (fun _=>P.raw κ):=fun _=>hnum κ
 have A:Alt P (P.alt (fun _=>P.io κ) (fun _=>P.raw κ) ge) κ 1000:=alt_of κ _ ge
 have S1:St (P.alt (fun _=>P.io κ) (fun _=>P.raw κ) ge) C (W.via r) hs (loosen 0 env) s:=by
  refine ⟨F.rel A K (fun a its ep i y m hi e=>(hl1 a its ep i y m hi e).trans (if_neg (by lia)).symm) S.rel,⟨m,Fm,fun i x w h1 h2 h3=>?_⟩,S.nw,S.gens,S.os⟩
  obtain ⟨v,a,b,c⟩:=loosen_back env 0 i w h2 h3
  rw [Nat.zero_add] at c
  refine ⟨ge (1000 + 2 * i),(hge i x v h1 a b).1,?_⟩
  rw [c]
  simp only [RV]
  exact (if_neg (Nat.not_lt.mpr (Nat.le_add_right 1000 (2 * i)))).symm
 refine ct _ _ ge hn C (ok.alt hn) (W.via r) (loosen 0 env) s vs Q E (fun i w a b=>let ⟨_,_,_,c⟩:=loosen_back env 0 i w a b; ⟨_,c⟩) S1 (pullL A ha ra) fun W' s' y X S' rv=>?_
 obtain ⟨R2,X2,pv⟩:=lift_ok A K (Nat.le_refl _) (fun g hg=>by show RV P W h.n (lvOf r h g) (if g < 1000 then P.gv g else ge g); rw [if_neg (by lia)]; exact hl2 g hg) L S.rel X S'.rel S.rel.res
 refine g (W.out W' h.n hs.n) s' _ X2 ⟨R2,?_,S'.nw,S'.gens,S'.os⟩ (pv v y rv)
 obtain ⟨m',Fm',Em'⟩:=S'.fr
 refine ⟨m',Fm',fun i x v h1 h2 h3=>?_⟩
 refine pL fun G0 hG0=>?_
 have z:=loosen_get env 0 i v h2 h3
 rw [Nat.zero_add] at z
 obtain ⟨y',a,b⟩:=Em' i x _ h1 z nofun
 simp only [RV] at b
 have b:y'=ge (1000 + 2 * i):=b.trans (if_neg (Nat.not_lt.mpr (Nat.le_add_right 1000 (2 * i))))
 subst b
 refine hG0 ?_
 exact ⟨_,a,(hge i x v h1 h2 h3).2.mono X2.L⟩
end
end Mine
namespace Mine
noncomputable section
variable {P P':Pm} {C:Cx} {W W' W'':Wd} {n n' m κ d:Nat} {r r':Nat→Nat} {h h' h'':Hp} {env:List V} {s:Shared} {io raw:Nat→Int} {ge:Nat→Value}
noncomputable def unV (ka:Nat→Int) (v:V):V:=V.rec (motive:=fun _=>V) .none (fun b=>.bool b) (fun i=>.int i) (fun k=>.str k) .dyn (fun a=>.ref a) (fun g=>.glb g) (fun e=>.si e) (fun j=>.int (ka j)) .bad .ub .tn (fun _ _ ix ir=>.tc ix ir) v
noncomputable def mapVs (f:V→V) (l:List V):List V:=List.rec [] (fun x _ ih=>f x::ih) l
noncomputable def unD (ka:Nat→Int) (l:List (V×V)):List (V×V):=List.rec [] (fun p _ ih=>(unV ka p.1,unV ka p.2)::ih) l
noncomputable def unN (ka:Nat→Int) (l:List (Nat×V)):List (Nat×V):=List.rec [] (fun p _ ih=>(p.1,unV ka p.2)::ih) l
noncomputable def unO1 (ka:Nat→Int) (o:O):O:=match o with
 | .list n t=>.list n (mapT (unV ka) t)
 | .dict es=>.dict (unD ka es)
 | .inst c d=>.inst c d
 | .ns es=>.ns (unN ka es)
 | .rng x y=>.rng x y
 | .kt st=>.kt st
noncomputable def unO (ka:Nat→Int) (kt:Nat→O) (o:O):O:=match o with
 | .kt st=>unO1 ka (kt st)
 | .list n t=>unO1 ka (.list n t)
 | .dict es=>unO1 ka (.dict es)
 | .inst c d=>.inst c d
 | .ns es=>unO1 ka (.ns es)
 | .rng x y=>.rng x y
theorem un_rv:∀ v:V,(∀ y,RV P W n (unV P.ka v) y↔RV P W n v y)∧(∀ ys,RT P W n (unV P.ka v) ys↔RT P W n v ys):=by
 intro v
 induction v with
 | kd j=>exact ⟨fun y=>by show RV P W n (.int (P.ka j)) y↔_; simp only [RV],fun ys=>by show RT P W n (.int (P.ka j)) ys↔_; simp only [RT]⟩
 | tc x r ix ir=>
  refine ⟨fun y=>?_,fun ys=>?_⟩
  ·show RV P W n (.tc (unV P.ka x) (unV P.ka r)) y↔_
   simp only [RV,ix.1,ir.2]
  ·show RT P W n (.tc (unV P.ka x) (unV P.ka r)) ys↔_
   simp only [RT,ix.1,ir.2]
 | _=>exact ⟨fun y=>Iff.rfl,fun ys=>Iff.rfl⟩
theorem un_kd:∀ v:V,kdOf P (unV P.ka v)=kdOf P v:=by
 intro v
 induction v with
 | tc x r ix ir=>
  show ((kdOf P (unV P.ka x)).bind fun a=>(kdOf P (unV P.ka r)).map fun b=>KD.tc a b)=_
  rw [ix,ir]; rfl
 | _=>rfl
theorem un_rvs {fv:V→V} (hf:∀ v y,RV P W n v y→RV P W n (fv v) y):∀ {l:List V} {ys:List Value},RVs P W n l ys→RVs P W n (mapVs fv l) ys
 | [],_,.nil=>.nil
 | _::_,_,.cons a b=>.cons (hf _ _ a) (un_rvs hf b)
theorem un_rd {l:List (V×V)} {ys:List Row3} (q:RD P W n l ys):RD P W n (unD P.ka l) ys:=by
 induction q with
 | nil=>exact .nil
 | cons c a b _ ih=>exact .cons (by rw [un_kd]; exact c) ((un_rv _).1 _ |>.mpr a) ((un_rv _).1 _ |>.mpr b) ih
theorem un_rd':∀ {l:List (V×V)} {ys:List Row3},RD P W n (unD P.ka l) ys→RD P W n l ys
 | [],_,.nil=>.nil
 | p::l,_,.cons c a b q=>.cons (by rw [un_kd] at c; exact c) ((un_rv _).1 _ |>.mp a) ((un_rv _).1 _ |>.mp b) (un_rd' q)
theorem un_rn {l:List (Nat×V)} {ys:List DictEntry} (q:RN P W n l ys):RN P W n (unN P.ka l) ys:=by
 induction q with
 | nil=>exact .nil
 | cons a _ ih=>exact .cons ((un_rv _).1 _ |>.mpr a) ih
theorem un_rn':∀ {l:List (Nat×V)} {ys:List DictEntry},RN P W n (unN P.ka l) ys→RN P W n l ys
 | [],_,.nil=>.nil
 | p::l,_,.cons a q=>.cons ((un_rv _).1 _ |>.mp a) (un_rn' q)
theorem un_ro1 {o:O} {a:Addr}:RO1 P W n (unO1 P.ka o) a↔RO1 P W n o a:=by
 induction o using O.casesOn with
 | list k t=>
  constructor
  ·rintro ⟨its,ep,q1,q2,q3,q4⟩
   refine ⟨its,ep,q1,q2,q3,fun i v l e=>?_⟩
   obtain ⟨x,g1,g2⟩:=q4 i (unV P.ka v) l (by rw [mapT_get,e]; rfl)
   exact ⟨x,g1,(un_rv _).1 _ |>.mp g2⟩
  ·rintro ⟨its,ep,q1,q2,q3,q4⟩
   refine ⟨its,ep,q1,q2,q3,fun i v l e=>?_⟩
   rw [mapT_get] at e
   induction w:t.get i using Option.casesOn with
   | none=>rw [w] at e; exact oX e
   | some u=>
    rw [w] at e
    (obtain rfl:=Option.some.inj e)
    obtain ⟨x,g1,g2⟩:=q4 i u l w
    exact ⟨x,g1,(un_rv _).1 _ |>.mpr g2⟩
 | dict es=>
  constructor
  ·rintro ⟨xs,ep,q1,q2⟩; exact ⟨xs,ep,q1,q2.alt un_rd'⟩
  ·rintro ⟨xs,ep,q1,q2⟩; exact ⟨xs,ep,q1,q2.alt un_rd⟩
 | ns es=>
  constructor
  ·rintro ⟨xs,ep,q1,q2,q3⟩; exact ⟨xs,ep,q1,un_rn' q2,q3⟩
  ·rintro ⟨xs,ep,q1,q2,q3⟩; exact ⟨xs,ep,q1,un_rn q2,q3⟩
 | inst c d=>exact Iff.rfl
 | rng x y=>exact Iff.rfl
 | kt st=>exact Iff.rfl
noncomputable def KtN (P:Pm):Prop:=∀ st q,P.kt st≠.kt q
theorem un_unO1 (hk:KtN P) {st:Nat} {a:Addr}:RO P W n (unO1 P.ka (P.kt st)) a↔RO1 P W n (P.kt st) a:=by
 have z:=hk st
 rw [← un_ro1 (o:=P.kt st)]
 unfold RO
 generalize P.kt st=o at z
 cases o <;> first | exact Iff.rfl | exact absurd rfl (z _)
theorem un_ro (hk:KtN P) {o:O} {a:Addr}:RO P W n (unO P.ka P.kt o) a↔RO P W n o a:=by
 induction o using O.casesOn with
 | kt st=>exact un_unO1 hk
 | list k t=>exact un_ro1 (o:=.list k t)
 | dict es=>exact un_ro1 (o:=.dict es)
 | ns es=>exact un_ro1 (o:=.ns es)
 | inst c d=>exact Iff.rfl
 | rng x y=>exact Iff.rfl
noncomputable def layT (l:List (Nat×O)):Tr O:=List.rec .nil (fun p _ ih=>ih.put p.1 p.2) l
noncomputable def allB {α:Type} (f:α→Bool) (l:List α):Bool:=List.rec true (fun x _ ih=>b3 (f x) ih true) l
theorem allB_mem {α:Type} {f:α→Bool}:∀ {l:List α},allB f l=true→∀ x∈l,f x=true
 | [],_,x,hx=>nomatch hx
 | y::l,h,x,hx=>by
  obtain ⟨h1,h2,_⟩:=b3_t (show b3 (f y) (allB f l) true=true from h)
  rcases List.mem_cons.mp hx with rfl | hx
  ·exact h1
  ·exact allB_mem h2 x hx
noncomputable def lowB (l:List (Nat×O)) (m:Nat):Bool:=allB (fun p=>Nat.blt p.1 m) l
theorem lt24 {a:Nat} (h:a < 16000000):a + 1 < 2 ^ 24:=by have:(2:Nat) ^ 24=16777216:=rfl; lia
theorem layT_get:∀ {l:List (Nat×O)},(∀ p∈l,p.1 < 16000000)→∀ {i:Nat} {o:O},(layT l).get i=some o→(i,o)∈l
 | [],_,i,o,e=>by exact oX e
 | p::l,hl,i,o,e=>by
  have e:((layT l).put p.1 p.2).get i=some o:=e
  rw [Tr.get_put _ _ _ _ (lt24 (hl p (.head _)))] at e
  by_cases q:p.1=i
  ·rw [if_pos q] at e; (obtain rfl:=Option.some.inj e); subst q; exact .head _
  ·rw [if_neg q] at e; exact .tail _ (layT_get (fun p hp=>hl p (.tail _ hp)) e)
structure Ct where
 as:List V
 m:Nat
 pre:List (Nat×O)
 post:List (Nat×O)
 k:Nat
 wr:List Nat
 v:V
noncomputable def Ct.hs (c:Ct):Hp:=⟨layT c.pre,c.m,[],[]⟩
noncomputable def Ct.hp (c:Ct):Hp:=⟨layT c.post,Nat.add c.m c.k,[],c.wr⟩
noncomputable def unP (fo:O→O) (l:List (Nat×O)):List (Nat×O):=List.rec [] (fun p _ ih=>(p.1,fo p.2)::ih) l
theorem unP_get {fo:O→O}:∀ (l:List (Nat×O)) {i:Nat} {o:O},(∀ p∈l,p.1 < 16000000)→(layT (unP fo l)).get i=some o→∃ o0,(layT l).get i=some o0∧o=fo o0
 | [],i,o,_,e=>by exact oX e
 | p::l,i,o,hl,e=>by
  have e:((layT (unP fo l)).put p.1 (fo p.2)).get i=some o:=e
  show ∃ o0,((layT l).put p.1 p.2).get i=some o0∧_
  rw [Tr.get_put _ _ _ _ (lt24 (hl p (.head _)))] at e
  rw [Tr.get_put _ _ _ _ (lt24 (hl p (.head _)))]
  by_cases q:p.1=i
  ·rw [if_pos q] at e ⊢; (obtain rfl:=Option.some.inj e); exact ⟨_,rfl,rfl⟩
  ·rw [if_neg q] at e ⊢; exact unP_get l (fun p hp=>hl p (.tail _ hp)) e
noncomputable def nthD (l:List Nat) (i:Nat):Nat:=List.rec (motive:=fun _=>Nat→Nat) (fun _=>0) (fun x _ ih i=>Nat.rec x (fun j _=>ih j) i) l i
noncomputable def sig (m:Nat) (l:List Nat) (i:Nat):Nat:=Bool.rec (nthD l (Nat.sub i m)) i (Nat.blt i m)
noncomputable def memB (i:Nat) (l:List Nat):Bool:=List.rec false (fun x _ ih=>Bool.rec ih true (Nat.beq x i)) l
theorem memB_mem {i:Nat}:∀ {l:List Nat},memB i l=true→i∈l
 | [],h=>by exact bX h
 | x::l,h=>by
  have h:(Bool.rec (memB i l) true (Nat.beq x i):Bool)=true:=h
  induction q:Nat.beq x i using Bool.casesOn with
  | true=>rw [beq_t q]; exact .head _
  | false=>rw [q] at h; exact .tail _ (memB_mem h)
noncomputable def upB (l:List Nat):Nat→Nat→Bool:=List.rec (motive:=fun _=>Nat→Nat→Bool) (fun _ _=>true) (fun x _ ih lo hi=>b3 (Nat.ble lo x) (Nat.blt x hi) (ih (Nat.succ x) hi)) l
theorem nthD_get:∀ {l:List Nat} {i:Nat},i < l.length→l[i]?=some (nthD l i)
 | [],i,h=>absurd h (Nat.not_lt_zero _)
 | x::l,0,_=>rfl
 | x::l,i + 1,h=>nthD_get (l:=l) (Nat.lt_of_succ_lt_succ h)
theorem upB_get:∀ {l:List Nat} {lo hi:Nat},upB l lo hi=true→∀ i,i < l.length→lo≤nthD l i∧nthD l i < hi
 | [],_,_,_,i,h=>absurd h (Nat.not_lt_zero _)
 | x::l,lo,hi,h,i,hi'=>by
  obtain ⟨h1,h2,h3⟩:=b3_t (show b3 (Nat.ble lo x) (Nat.blt x hi) (upB l (Nat.succ x) hi)=true from h)
  have a:=Nat.le_of_ble_eq_true h1
  induction i using Nat.casesOn with
  | zero=>exact ⟨a,blt_t h2⟩
  | succ i=>
   obtain ⟨b,c⟩:=upB_get h3 i (Nat.lt_of_succ_lt_succ hi')
   exact ⟨by show lo≤nthD l i; lia,c⟩
theorem upB_inj:∀ {l:List Nat} {lo hi:Nat},upB l lo hi=true→∀ i j,i < l.length→j < l.length→nthD l i=nthD l j→i=j
 | [],_,_,_,i,_,h,_,_=>absurd h (Nat.not_lt_zero _)
 | x::l,lo,hi,h,i,j,li,lj,e=>by
  obtain ⟨_,_,h3⟩:=b3_t (show b3 (Nat.ble lo x) (Nat.blt x hi) (upB l (Nat.succ x) hi)=true from h)
  induction i using Nat.casesOn with
  | zero=>
   induction j using Nat.casesOn with
   | zero=>rfl
   | succ j=>
    have:=(upB_get h3 j (Nat.lt_of_succ_lt_succ lj)).1
    have e:x=nthD l j:=e
    lia
  | succ i=>
   induction j using Nat.casesOn with
   | zero=>
    have:=(upB_get h3 i (Nat.lt_of_succ_lt_succ li)).1
    have e:nthD l i=x:=e
    lia
   | succ j=>rw [upB_inj h3 i j (Nat.lt_of_succ_lt_succ li) (Nat.lt_of_succ_lt_succ lj) e]
noncomputable def postB (c:Ct) (fo:O→O) (sl:List Nat) (h0:Hp) (p:Nat×O):Bool:=b3 (Nat.blt p.1 (Nat.add c.m c.k)) (match h0.t.get (sig c.m sl p.1) with | some o=>fitO (sig c.m sl) 1000 16000000 (Nat.add c.m c.k) (fo p.2) o | none=>false) true
noncomputable def endB (c:Ct) (fv:V→V) (fo:O→O) (sl:List Nat) (v0:V) (h0:Hp):Bool:=
 b3 (fitV (sig c.m sl) 1000 16000000 (Nat.add c.m c.k) (fv c.v) v0) (allB (postB c fo sl h0) c.post) (b3 (allB (fun i=>Bool.rec true (memB i c.wr) (Nat.blt i c.m)) h0.wr) (b3 (Nat.beq sl.length c.k) (upB sl c.m h0.n) true) true)
noncomputable def runB (c:Ct) (fv:V→V) (fo:O→O) (sl:List Nat) (cf:CF) (f:Nat) (rs:List ((Nat×Nat×Nat)×Nat)):Bool:=
 R.rec (motive:=fun _=>Bool) (fun v0 h0=>endB c fv fo sl v0 h0) (fun _ _=>false) (fun _ _=>false) (fun _ _=>false) false (cf (.kd f) (mapVs fv c.as) ⟨layT (unP fo c.pre),c.m,rs,[]⟩)
noncomputable def Ct.ok (c:Ct):Bool:=b3 (lowB c.pre c.m) (Nat.ble (Nat.add c.m c.k) 16000000) (b3 (lowB c.post (Nat.add c.m c.k)) (allB (fun i=>Nat.blt i c.m) c.wr) true)
theorem alt_refl (P:Pm):Alt P P 1000 16000000:=⟨rfl,rfl,rfl,rfl,rfl,rfl,fun _ _=>rfl,fun h=>absurd h (Nat.lt_irrefl _)⟩
structure UnOk (P:Pm) (fv:V→V) (fo:O→O):Prop where
 rv:∀ W n v y,RV P W n (fv v) y↔RV P W n v y
 ro:∀ W n o a,RO P W n (fo o) a↔RO P W n o a
theorem un_ok (hk:KtN P):UnOk P (unV P.ka) (unO P.ka P.kt):=⟨fun _ _ v y=>(un_rv v).1 y,fun _ _ _ _=>un_ro hk⟩
noncomputable def idV (v:V):V:=v
noncomputable def idO (o:O):O:=o
theorem id_ok:UnOk P idV idO:=⟨fun _ _ _ _=>Iff.rfl,fun _ _ _ _=>Iff.rfl⟩
theorem run_end {c:Ct} {fv:V→V} {fo:O→O} (hc:c.ok=true) (hu:UnOk P fv fo) (ko:KtOk P) {sl:List Nat} {v0:V} {h0:Hp} {rs:List ((Nat×Nat×Nat)×Nat)} (hb:endB c fv fo sl v0 h0=true)
  (X:Ext W W' ⟨layT (unP fo c.pre),c.m,rs,[]⟩ h0) (rel:Rel P W' h0):Rel P (W'.via (sig c.m sl)) c.hp∧Ext W (W'.via (sig c.m sl)) c.hs c.hp∧∀ y,RV P W' h0.n v0 y→RV P (W'.via (sig c.m sl)) c.hp.n c.v y:=by
 refine pL fun G0 hG0=>?_
 obtain ⟨c1,c2,c3⟩:=b3_t hc
 obtain ⟨c4,c5,_⟩:=b3_t c3
 obtain ⟨b1,b2,b3'⟩:=b3_t hb
 obtain ⟨b4,b5,_⟩:=b3_t b3'
 obtain ⟨b6,b7,_⟩:=b3_t b5
 refine hG0 ?_
 have e6:=beq_t b6
 have slo:∀ i,i < c.m→sig c.m sl i=i:=fun i l=>by unfold sig; rw [blt_eq,decide_eq_true l]
 have shi:∀ i,c.m≤i→sig c.m sl i=nthD sl (i - c.m):=fun i l=>by unfold sig; rw [blt_eq,decide_eq_false (Nat.not_lt.mpr l)]; rfl
 have n0:c.m≤h0.n:=X.L.le
 have cm:c.m + c.k≤16000000:=Nat.le_of_ble_eq_true c2
 have sr:∀ i,i < c.m + c.k→sig c.m sl i < h0.n:=fun i l=>by
  by_cases q:i < c.m
  ·rw [slo i q]; lia
  ·rw [shi i (by lia)]; exact (upB_get b7 _ (by lia)).2
 have sm:∀ i,c.m≤i→i < c.m + c.k→c.m≤sig c.m sl i:=fun i l l'=>by rw [shi i l]; exact (upB_get b7 _ (by lia)).1
 have sinj:∀ i j,i < c.m + c.k→j < c.m + c.k→sig c.m sl i=sig c.m sl j→i=j:=fun i j li lj e=>by
  by_cases qi:i < c.m <;> by_cases qj:j < c.m
  ·rw [slo i qi,slo j qj] at e; exact e
  ·rw [slo i qi] at e; have:=sm j (by lia) lj; lia
  ·rw [slo j qj] at e; have:=sm i (by lia) li; lia
  ·rw [shi i (by lia),shi j (by lia)] at e
   have:=upB_inj b7 _ _ (by lia) (by lia) e
   lia
 have A:=alt_refl P
 have pl:∀ p∈c.post,p.1 < c.m + c.k:=fun p hp=>blt_t (allB_mem c4 p hp)
 refine ⟨⟨rel.nod,fun a b la lb e=>sinj a b la lb (rel.inj _ _ (sr a la) (sr b lb) e),fun a o e=>?_,fun a l=>rel.dom _ (sr a l),fun p hp=>absurd hp List.not_mem_nil,fun a ha=>?_,rel.low,rel.non,cm⟩,⟨⟨?_,fun a l=>?_,X.L.imm⟩,rfl,fun a ha=>absurd ha List.not_mem_nil,X.dom,fun i a b=>?_,fun b o m k=>?_⟩,fun y q=>?_⟩
 ·have hm:=layT_get (fun p hp=>Nat.lt_of_lt_of_le (pl p hp) cm) e
  obtain ⟨p1,p2,_⟩:=b3_t (allB_mem b2 _ hm)
  induction w:h0.t.get (sig c.m sl a) using Option.casesOn with
  | none=>rw [show h0.t.get (sig c.m sl (a,o).1)=none from w] at p2; exact bX p2
  | some o0=>
   rw [show h0.t.get (sig c.m sl (a,o).1)=some o0 from w] at p2
   exact ⟨blt_t p1,(hu.ro _ _ _ _).mp (pullO A ko p2 (rel.obj _ _ w).2)⟩
 ·have:=blt_t (allB_mem c5 a ha)
  show a < c.m + c.k
  lia
 ·exact Nat.le_add_right _ _
 ·show W'.si (sig c.m sl a)=W.si a
  rw [slo a l]; exact X.L.si a l
 ·exact X.new _ (sm i a b) (sr i b)
 ·refine X.keep b o m fun i hi e=>?_
  by_cases q:i < c.m
  ·have z:=allB_mem b4 i hi
   rw [blt_eq,decide_eq_true q] at z
   exact k i (memB_mem z) (by show W'.si (sig c.m sl i)=b; rw [slo i q]; exact e)
  ·exact X.new i (Nat.not_lt.mp q) (rel.wr i hi) (e▸mem_fst m)
 ·exact (hu.rv _ _ _ _).mp ((pullV A _ _ b1).1 y q)
theorem ct_of_runs {cf:CF} {f:Nat} {fv:V→V} {fo:O→O} (SC:∀ io raw ge,Num io raw→SndCF (P.alt io raw ge) d cf) (hu:∀ io raw ge,UnOk (P.alt io raw ge) fv fo) (ko:KtOk P) {c:Ct} (hc:c.ok=true) {sl:List Nat} {L:List (List ((Nat×Nat×Nat)×Nat))}
  (cover:∀ io:Nat→Int,∃ rs∈L,∀ p∈rs,Int.fmod (Int.fdiv (io p.1.1) p.1.2.1) p.1.2.2=p.2) (runs:∀ rs∈L,runB c fv fo sl cf f rs=true):SndCtA P d f c.as c.hs c.hp c.v:=by
 intro io raw ge hn C ok W env s vs Q E lo S ra g
 refine pL fun G0 hG0=>?_
 obtain ⟨rs,hrs,res⟩:=cover io
 have hb:=runs rs hrs
 have hb:R.rec (motive:=fun _=>Bool) (fun v0 h0=>endB c fv fo sl v0 h0) (fun _ _=>false) (fun _ _=>false) (fun _ _=>false) false (cf (.kd f) (mapVs fv c.as) ⟨layT (unP fo c.pre),c.m,rs,[]⟩)=true:=hb
 obtain ⟨c1,c2,_⟩:=b3_t hc
 refine hG0 ?_
 have cm:c.m + c.k≤16000000:=Nat.le_of_ble_eq_true c2
 have pl:∀ p∈c.pre,p.1 < 16000000:=fun p hp=>by have:=blt_t (allB_mem c1 p hp); lia
 induction q:cf (.kd f) (mapVs fv c.as) ⟨layT (unP fo c.pre),c.m,rs,[]⟩ using R.casesOn with
 | v v0 h0=>
  rw [q] at hb
  have S1:St (P.alt io raw ge) C W ⟨layT (unP fo c.pre),c.m,rs,[]⟩ env s:=by
   have R:=S.rel
   refine ⟨⟨R.nod,R.inj,fun a o e=>?_,R.dom,res,fun a ha=>absurd ha List.not_mem_nil,R.low,R.non,R.lid⟩,S.fr,S.nw,S.gens,S.os⟩
   obtain ⟨o0,e0,rfl⟩:=unP_get c.pre pl e
   obtain ⟨z1,z2⟩:=R.obj a o0 e0
   exact ⟨z1,((hu io raw ge).ro _ _ _ _).mpr z2⟩
  refine (SC io raw ge hn).2 C ok W _ env s f _ vs v0 h0 Q E S1 (un_rvs (P:=P.alt io raw ge) (fun v y=>((hu io raw ge).rv _ _ v y).mpr) ra) q fun W' s' y X S' rv=>?_
  obtain ⟨R2,X2,pv⟩:=run_end (P:=P.alt io raw ge) hc (hu io raw ge) ko hb X S'.rel
  refine g _ s' y X2 ⟨R2,?_,S'.nw,S'.gens,S'.os⟩ (pv y rv)
  obtain ⟨m',F',E'⟩:=S'.fr
  refine ⟨m',F',fun i x w h1 h2 h3=>?_⟩
  obtain ⟨y',a,b⟩:=E' i x w h1 h2 h3
  refine ⟨y',a,?_⟩
  obtain ⟨g0,rfl⟩:=lo i w h2 h3
  simp only [RV] at b ⊢
  exact b
 | _=>rw [q] at hb; exact bX hb
end
end Mine
namespace Mine
noncomputable section
variable {P P':Pm} {C:Cx} {W W' W'':Wd} {n n' m κ d:Nat} {r r':Nat→Nat} {h h' h'':Hp} {env:List V} {s:Shared} {io raw:Nat→Int} {ge:Nat→Value}
structure Dc where
 t:Tr Nat
 c:Nat
noncomputable def dcR (a x:Nat) (s:Dc):Dc:=Bool.rec s ⟨s.t.put s.c x,Nat.succ s.c⟩ (Nat.beq a s.c)
noncomputable def dcV (v:V):V→Dc→Dc:=V.rec (motive:=fun _=>V→Dc→Dc) (fun _ s=>s) (fun _ _ s=>s) (fun _ _ s=>s) (fun _ _ s=>s) (fun _ s=>s) (fun a b s=>match b with | .ref x=>dcR a x s | _=>s) (fun _ _ s=>s) (fun _ _ s=>s) (fun _ _ s=>s) (fun _ s=>s) (fun _ s=>s) (fun _ s=>s)
 (fun _ _ ix ir b s=>match b with | .tc y z=>ir z (ix y s) | _=>s) v
noncomputable def dcOp (a b:Option V) (s:Dc):Dc:=match a with
 | none=>s
 | some x=>match b with | some y=>dcV x y s | none=>s
noncomputable def dcT (a:Tr V):Tr V→Dc→Dc:=Tr.rec (motive:=fun _=>Tr V→Dc→Dc) (fun _ s=>s) (fun v _ _ fl fr b s=>match b with | .nil=>s | .node v' l' r'=>fr r' (fl l' (dcOp v v' s))) a
noncomputable def dcD (a:List (V×V)):List (V×V)→Dc→Dc:=List.rec (motive:=fun _=>List (V×V)→Dc→Dc) (fun _ s=>s) (fun p _ ih b s=>match b with | []=>s | q::t=>ih t (dcV p.2 q.2 s)) a
noncomputable def dcN (a:List (Nat×V)):List (Nat×V)→Dc→Dc:=List.rec (motive:=fun _=>List (Nat×V)→Dc→Dc) (fun _ s=>s) (fun p _ ih b s=>match b with | []=>s | q::t=>ih t (dcV p.2 q.2 s)) a
noncomputable def dcL (a:List V):List V→Dc→Dc:=List.rec (motive:=fun _=>List V→Dc→Dc) (fun _ s=>s) (fun x _ ih b s=>match b with | []=>s | y::t=>ih t (dcV x y s)) a
noncomputable def dcO (a b:O) (s:Dc):Dc:=match a with
 | .list _ t=>(match b with | .list _ t'=>dcT t t' s | _=>s)
 | .dict es=>(match b with | .dict es'=>dcD es es' s | _=>s)
 | .inst _ x=>(match b with | .inst _ y=>dcR x y s | _=>s)
 | .ns es=>(match b with | .ns es'=>dcN es es' s | _=>s)
 | _=>s
noncomputable def opO {α β:Type} (o:Option α) (b:β) (f:α→β):β:=Option.rec b f o
noncomputable def dcP (h:Hp) (l:List (Nat×O)):Dc→Dc:=List.rec (motive:=fun _=>Dc→Dc) (fun s=>s) (fun p _ ih s=>ih (opO (s.t.get p.1) s fun a=>opO (h.t.get a) s fun o=>dcO p.2 o s)) l
noncomputable def rOf (t:Tr Nat) (i:Nat):Nat:=opO (t.get i) 0 fun a=>a
noncomputable def idxs (m:Nat):List Nat:=Nat.rec [] (fun i ih=>i::ih) m
noncomputable def mapN (r:Nat→Nat) (l:List Nat):List Nat:=List.rec [] (fun x _ ih=>r x::ih) l
noncomputable def disB (l:List Nat):Bool:=List.rec true (fun x t ih=>b3 (Bool.rec true false (memB x t)) ih true) l
noncomputable def allE {α:Type} (f:α→Bool) (l:List α):Bool:=List.rec true (fun x _ ih=>b3 ih (f x) true) l
theorem allE_mem {α:Type} {f:α→Bool}:∀ {l:List α},allE f l=true→∀ x∈l,f x=true
 | [],_,x,hx=>nomatch hx
 | y::l,h,x,hx=>by
  obtain ⟨h1,h2,_⟩:=b3_t (show b3 (allE f l) (f y) true=true from h)
  rcases List.mem_cons.mp hx with rfl | hx
  ·exact h2
  ·exact allE_mem h1 x hx
noncomputable def objB (r:Nat→Nat) (κ m:Nat) (h:Hp) (p:Nat×O):Bool:=opO (h.t.get (r p.1)) false fun o=>fitOi r κ 1000 m p.1 p.2 o
noncomputable def Ct.fitB (c:Ct) (κ:Nat) (r:Nat→Nat) (rl:List Nat) (args:List V) (h:Hp):Bool:=
 b3 (fitL r κ 1000 c.m c.as args) (allE (objB r κ c.m h) c.pre) (b3 (allB (fun a=>Nat.blt a h.n) rl) (disB rl) (Nat.ble (Nat.add h.n c.k) 16000000))
noncomputable def upr (r:Nat→Nat) (k m i:Nat):Nat:=Bool.rec (Nat.add k (Nat.sub i m)) (r i) (Nat.blt i m)
noncomputable def layU (t:Tr O) (r':Nat→Nat) (lv:Nat→V) (l:List (Nat×O)):Tr O:=List.rec t (fun p _ ih=>ih.put (r' p.1) (renO r' lv p.2)) l
noncomputable def appN (a b:List Nat):List Nat:=List.rec b (fun x _ ih=>x::ih) a
noncomputable def Ct.lift (c:Ct) (r:Nat→Nat) (h:Hp):Hp:=⟨layU h.t (upr r h.n c.m) (lvOf r h) c.post,Nat.add h.n c.k,h.rs,appN (mapN r c.wr) h.wr⟩
noncomputable def Ct.use (c:Ct) (κ:Nat) (args:List V) (h:Hp) (no:R):R:=
 (fun r:Nat→Nat=>Bool.rec no (.v (renV (upr r h.n c.m) (lvOf r h) c.v) (c.lift r h)) (c.fitB κ r (mapN r (idxs c.m)) args h)) (rOf (dcP h c.pre (dcL c.as args ⟨.nil,0⟩)).t)
noncomputable def Ct.ok2 (c:Ct):Bool:=b3 c.ok (allB (fun i=>memB i (List.rec [] (fun p _ ih=>p.1::ih) c.post:List Nat)) c.wr) true
theorem opO_t {α:Type} {o:Option α} {f:α→Bool} (e:opO o false f=true):∃ a,o=some a∧f a=true:=by cases o with | none=>exact bX e | some a=>exact ⟨a,rfl,e⟩
theorem mem_idxs:∀ {m i:Nat},i < m→i∈idxs m
 | 0,i,h=>absurd h (Nat.not_lt_zero _)
 | m + 1,i,h=>by
  show i∈m::idxs m
  rcases Nat.lt_succ_iff_lt_or_eq.mp h with h | rfl
  ·exact .tail _ (mem_idxs h)
  ·exact .head _
theorem mem_mapN {r:Nat→Nat}:∀ {l:List Nat} {i:Nat},i∈l→r i∈mapN r l
 | x::l,i,h=>by
  show r i∈r x::mapN r l
  rcases List.mem_cons.mp h with rfl | h
  ·exact .head _
  ·exact .tail _ (mem_mapN h)
theorem memB_of {i:Nat}:∀ {l:List Nat},i∈l→memB i l=true
 | x::l,h=>by
  show (Bool.rec (memB i l) true (Nat.beq x i):Bool)=true
  rw [beqD]
  by_cases q:x=i
  ·rw [decide_eq_true q]
  ·rw [decide_eq_false q]
   rcases List.mem_cons.mp h with e | h
   ·exact absurd e.symm q
   ·exact memB_of h
theorem dis_inj {r:Nat→Nat}:∀ {m:Nat},disB (mapN r (idxs m))=true→∀ i j,i < m→j < m→r i=r j→i=j
 | 0,_,i,_,h,_,_=>absurd h (Nat.not_lt_zero _)
 | m + 1,hd,i,j,hi,hj,e=>by
  obtain ⟨h1,h2,_⟩:=b3_t (show b3 (Bool.rec true false (memB (r m) (mapN r (idxs m)))) (disB (mapN r (idxs m))) true=true from hd)
  have out:∀ k,k < m→r m≠r k:=fun k hk q=>by
   rw [memB_of (q▸mem_mapN (mem_idxs hk):r m∈mapN r (idxs m))] at h1
   exact bX h1
  rcases Nat.lt_succ_iff_lt_or_eq.mp hi with hi | rfl <;> rcases Nat.lt_succ_iff_lt_or_eq.mp hj with hj | rfl
  ·exact dis_inj h2 i j hi hj e
  ·exact absurd e.symm (out i hi)
  ·exact absurd e (out j hj)
  ·rfl
theorem mem_appN:∀ {a b:List Nat} {i:Nat},i∈appN a b↔i∈a∨i∈b
 | [],b,i=>by show i∈b↔_; simp
 | x::a,b,i=>by show i∈x::appN a b↔_; rw [List.mem_cons,mem_appN,List.mem_cons,or_assoc]
theorem mapN_mem {r:Nat→Nat}:∀ {l:List Nat} {a:Nat},a∈mapN r l→∃ i∈l,a=r i
 | x::l,a,h=>by
  rcases List.mem_cons.mp (show a∈r x::mapN r l from h) with rfl | h
  ·exact ⟨x,.head _,rfl⟩
  ·obtain ⟨i,hi,e⟩:=mapN_mem h; exact ⟨i,.tail _ hi,e⟩
theorem fst_list {l:List (Nat×O)} {i:Nat} (h:i∈(List.rec [] (fun p _ ih=>p.1::ih) l:List Nat)):∃ p∈l,p.1=i:=by
 induction l with
 | nil=>cases h
 | cons p l ih=>
  rcases List.mem_cons.mp (show i∈p.1::(List.rec [] (fun p _ ih=>p.1::ih) l:List Nat) from h) with rfl | h
  ·exact ⟨p,.head _,rfl⟩
  ·obtain ⟨q,a,b⟩:=ih h; exact ⟨q,.tail _ a,b⟩
theorem layU_get {t:Tr O} {lv:Nat→V}:∀ {l:List (Nat×O)},(∀ p∈l,r' p.1 < 16000000)→(∀ p∈l,p.1 < 16000000)→∀ {a:Nat} {o:O},(layU t r' lv l).get a=some o→
  (∃ i o1,(layT l).get i=some o1∧a=r' i∧o=renO r' lv o1)∨(t.get a=some o∧∀ p∈l,r' p.1≠a)
 | [],_,_,a,o,e=>.inr ⟨e,fun p hp=>absurd hp List.not_mem_nil⟩
 | p::l,hl,hl2,a,o,e=>by
  have e:((layU t r' lv l).put (r' p.1) (renO r' lv p.2)).get a=some o:=e
  rw [Tr.get_put _ _ _ _ (lt24 (hl p (.head _)))] at e
  by_cases q:r' p.1=a
  ·rw [if_pos q] at e
   (obtain rfl:=Option.some.inj e)
   refine .inl ⟨p.1,p.2,?_,q.symm,rfl⟩
   show ((layT l).put p.1 p.2).get p.1=_
   rw [Tr.get_put _ _ _ _ (lt24 (hl2 p (.head _))),if_pos rfl]
  ·rw [if_neg q] at e
   rcases layU_get (fun p hp=>hl p (.tail _ hp)) (fun p hp=>hl2 p (.tail _ hp)) e with ⟨i,o1,a1,a2,a3⟩ | ⟨a1,a2⟩
   ·refine .inl ⟨i,o1,?_,a2,a3⟩
    show ((layT l).put p.1 p.2).get i=_
    rw [Tr.get_put _ _ _ _ (lt24 (hl2 p (.head _))),if_neg (fun w=>q (by rw [w]; exact a2.symm))]
    exact a1
   ·refine .inr ⟨a1,fun p' hp'=>?_⟩
    rcases List.mem_cons.mp hp' with rfl | hp'
    ·exact q
    ·exact a2 p' hp'
theorem use_fits {c:Ct} {P:Pm} {W:Wd} {h:Hp} {args:List V} (hc:c.ok2=true) (hf:c.fitB κ r (mapN r (idxs c.m)) args h=true) (Rl:Rel P W h):Fits κ r c.hs h∧Lift h (c.lift r h) c.hs c.hp r (upr r h.n c.m) (lvOf r h):=by
 refine pL fun G0 hG0=>?_
 obtain ⟨f1,f2,f3⟩:=b3_t hf
 obtain ⟨f4,f5,f6⟩:=b3_t f3
 obtain ⟨k1,k2,_⟩:=b3_t hc
 obtain ⟨c1,c2,c3⟩:=b3_t k1
 obtain ⟨c4,c5,_⟩:=b3_t c3
 refine hG0 ?_
 have cm:c.m + c.k≤16000000:=Nat.le_of_ble_eq_true c2
 have hk:h.n + c.k≤16000000:=Nat.le_of_ble_eq_true f6
 have rl:∀ i,i < c.m→r i < h.n:=fun i l=>blt_t (allB_mem f4 _ (mem_mapN (mem_idxs l)))
 have lo:∀ i,i < c.m→upr r h.n c.m i=r i:=fun i l=>by unfold upr; rw [blt_eq,decide_eq_true l]
 have hi:∀ i,c.m≤i→upr r h.n c.m i=h.n + (i - c.m):=fun i l=>by unfold upr; rw [blt_eq,decide_eq_false (Nat.not_lt.mpr l)]; rfl
 have pre:∀ p∈c.pre,p.1 < c.m:=fun p hp=>blt_t (allB_mem c1 p hp)
 have post:∀ p∈c.post,p.1 < c.m + c.k:=fun p hp=>blt_t (allB_mem c4 p hp)
 have ur:∀ i,i < c.m + c.k→upr r h.n c.m i < 16000000:=fun i l=>by
  by_cases q:i < c.m
  ·rw [lo i q]; have:=rl i q; have:=Rl.lid; lia
  ·rw [hi i (by lia)]; omega
 have F:Fits κ r c.hs h:=by
  refine ⟨rl,dis_inj f5,fun i o e=>?_,rfl,rfl,by show c.m≤_; lia⟩
  have hm:=layT_get (fun p hp=>by have:=pre p hp; lia) e
  obtain ⟨o',e',z⟩:=opO_t (allE_mem f2 _ hm)
  exact ⟨pre _ hm,o',e',z⟩
 have L:Lift h (c.lift r h) c.hs c.hp r (upr r h.n c.m) (lvOf r h):=by
  refine ⟨lo,hi,rl,dis_inj f5,?_,Nat.le_add_right _ _,hk,rfl,fun a ha=>mem_appN.mpr (.inr ha),fun i hi' hl=>mem_appN.mpr (.inl (mem_mapN hi')),fun a ha=>?_,fun a o e=>?_⟩
  ·show h.n + c.k=h.n + (c.m + c.k - c.m); omega
  ·show a < h.n + c.k
   rcases mem_appN.mp ha with ha | ha
   ·obtain ⟨i,hi',rfl⟩:=mapN_mem ha
    have:=rl i (blt_t (allB_mem c5 i hi')); lia
   ·have:=Rl.wr a ha; lia
  ·rcases layU_get (fun p hp=>ur _ (post p hp)) (fun p hp=>by have:=post p hp; lia) e with ⟨i,o1,a1,a2,a3⟩ | ⟨a1,a2⟩
   ·exact .inl ⟨i,o1,a1,a2,a3⟩
   ·refine .inr ⟨a1,fun i hi' hl=>?_⟩
    obtain ⟨p,hp,rfl⟩:=fst_list (memB_mem (allB_mem k2 i hi'))
    have z:=a2 p hp
    rw [lo _ hl] at z
    exact z
 exact ⟨F,L⟩
theorem use_ok {c:Ct} {f:Nat} (K:KtOk P) (hc:c.ok2=true) (ct:SndCtA P d f c.as c.hs c.hp c.v) (hf:c.fitB κ r (mapN r (idxs c.m)) args h=true)
  (ok:C.Ok P d) (hnum:Num P.io P.raw) {vs:List Value} {Q:Value→Shared→Prop} {E:Value→Shared→Prop} (S:St P C W h env s) (ra:RVs P W h.n args vs) (g:Go P C W h env (c.lift r h) (renV (upr r h.n c.m) (lvOf r h) c.v) Q) :
  codeAny (Cx.M P) C.A (.call (.ref (P.fa f)) ⟨vs,[]⟩) (Ret Q E) s:=by
 obtain ⟨F,L⟩:=use_fits hc hf S.rel
 exact frame_call K ct F L (b3_t hf).1 ok hnum S ra g
end
end Mine
namespace Mine
noncomputable section
variable {P P':Pm} {C:Cx} {W W' W'':Wd} {n n' m κ d:Nat} {r r':Nat→Nat} {h h' h'':Hp} {env:List V} {s:Shared} {io raw:Nat→Int} {ge:Nat→Value} {gn:Nat→Str}
noncomputable def qV (κ:Nat) (a b:V):Bool:=match a with | .ref _=>true | a=>fitV (fun x=>x) κ 1000 0 a b
noncomputable def qL (κ:Nat) (a:List V):List V→Bool:=List.rec (motive:=fun _=>List V→Bool) (fun _=>true) (fun x _ ih b=>match b with | []=>false | y::t=>b3 (qV κ x y) (ih t) true) a
structure En where
 k:Nat
 c:Ct
 path:List Nat
 tag:Nat
noncomputable def gdB (h:Hp) (l:List Nat) (tag:Nat):V→Bool:=List.rec (motive:=fun _=>V→Bool) (fun v=>match v with
  | .ref a=>opO (h.t.get a) false fun o=>match o with | .kt t=>Nat.beq t tag | _=>false
  | _=>false)
 (fun k _ ih v=>match v with
  | .ref a=>opO (h.t.get a) false fun o=>match o with
   | .inst _ d=>opO (h.t.get d) false fun o=>match o with | .ns es=>opO (assoc k es) false ih | _=>false
   | _=>false
  | _=>false) l
noncomputable def En.first (p:En) (args:List V) (h:Hp):Bool:=b3 (qL p.k p.c.as args) (match p.path with | []=>true | l=>match args with | v::_=>gdB h l p.tag v | []=>false) true
noncomputable def orc (l:List En) (args:List V) (h:Hp) (no:R):R:=List.rec no (fun p _ ih=>Bool.rec ih (p.c.use p.k args h ih) (p.first args h)) l
noncomputable def stepO (os:Nat→List En) (ih:CF):CF:=fun f as h=>match f with
 | .kd fi=>orc (os fi) as h (R.ofO (fnT.get fi) fun fn=>enter ih as h fn)
 | f=>callStep ih f as h
noncomputable def iterO (os:Nat→List En) (base:CF) (k:Nat):CF:=Nat.rec base (fun _ ih=>stepO os ih) k
theorem use_v {c:Ct} {args:List V} {no:R} {v:V} (e:c.use κ args h no=.v v h'):(∃ r,c.fitB κ r (mapN r (idxs c.m)) args h=true∧v=renV (upr r h.n c.m) (lvOf r h) c.v∧h'=c.lift r h)∨no=.v v h':=by
 unfold Ct.use at e
 induction q:c.fitB κ (rOf (dcP h c.pre (dcL c.as args ⟨.nil,0⟩)).t) (mapN (rOf (dcP h c.pre (dcL c.as args ⟨.nil,0⟩)).t) (idxs c.m)) args h using Bool.casesOn with
 | true=>
  simp only [q] at e
  injection e with e1 e2
  exact .inl ⟨_,q,e1.symm,e2.symm⟩
 | false=>simp only [q] at e; exact .inr e
theorem orc_v {args:List V} {no:R} {v:V}:∀ {l:List En},orc l args h no=.v v h'→(∃ p∈l,∃ r,p.c.fitB p.k r (mapN r (idxs p.c.m)) args h=true∧v=renV (upr r h.n p.c.m) (lvOf r h) p.c.v∧h'=p.c.lift r h)∨no=.v v h'
 | [],e=>.inr e
 | p::l,e=>by
  have e:(Bool.rec (orc l args h no) (p.c.use p.k args h (orc l args h no)) (p.first args h):R)=.v v h':=e
  have go:orc l args h no=.v v h'→(∃ p'∈p::l,∃ r,p'.c.fitB p'.k r (mapN r (idxs p'.c.m)) args h=true∧v=renV (upr r h.n p'.c.m) (lvOf r h) p'.c.v∧h'=p'.c.lift r h)∨no=.v v h':=fun e=>(orc_v e).imp (fun ⟨p',hp',z⟩=>⟨p',List.mem_cons_of_mem p hp',z⟩) id
  induction qq:p.first args h using Bool.casesOn with
  | false=>rw [qq] at e; exact go e
  | true=>
   rw [qq] at e
   rcases use_v e with ⟨r,z⟩ | z
   ·exact .inl ⟨p,.head _,r,z⟩
   ·exact go z
theorem Cx.Ok.low (ok:C.Ok P d) {k:Nat} (hk:k≤d):C.Ok P k:=⟨ok.pok,ok.below,ok.frames,ok.x,ok.t,by have:=ok.depth; lia,by have:=ok.units; lia,ok.handled,ok.kind,ok.nod,ok.loc,ok.cel,ok.dbg⟩
noncomputable def Ors (P:Pm) (d:Nat) (os:Nat→List En):Prop:=∀ fi,∀ p∈os fi,p.c.ok2=true∧SndCtA P d fi p.c.as p.c.hs p.c.hp p.c.v
theorem stepO_ok (D:Gd P gn) (K:KtOk P) {os:Nat→List En} {d0:Nat} (O:Ors P d0 os) (hd:d0≤d + 1) {ih:CF} (SC:SndCF P d ih):SndCF P (d + 1) (stepO os ih):=by
 have base:=D.step SC
 refine ⟨base.1,fun C ok W h env s f args vs v h' Q E S ra e g=>?_⟩
 rcases orc_v (show orc (os f) args h (R.ofO (fnT.get f) fun fn=>enter ih args h fn)=.v v h' from e) with ⟨p,hp,r,hf,rfl,rfl⟩ | z
 ·obtain ⟨o1,o2⟩:=O f p hp
  exact use_ok K o1 o2 hf (ok.low hd) ok.pok.io S ra g
 ·exact base.2 C ok W h env s f args vs v h' Q E S ra z g
theorem iterO_ok (D:Gd P gn) (K:KtOk P) {os:Nat→List En} {b:Nat} (O:Ors P b os) {base:CF} (SC:SndCF P b base) (k:Nat):SndCF P (b + k) (iterO os base k):=by
 induction k with
 | zero=>exact SC
 | succ k ih=>exact stepO_ok D K O (Nat.le_succ_of_le (Nat.le_add_right b k)) ih
theorem alt_alt (P:Pm) (io raw io' raw':Nat→Int) (ge ge':Nat→Value):(P.alt io raw ge).alt io' raw' ge'=P.alt io' raw' ge':=by
 unfold Pm.alt
 simp only [Pm.mk.injEq,true_and,and_true]
 funext g
 by_cases q:g < 1000
 ·rw [if_pos q,if_pos q,if_pos q]
 ·rw [if_neg q,if_neg q]
theorem SndCtA.alt {f:Nat} {as:List V} {hs hp:Hp} {v:V} (c:SndCtA P d f as hs hp v):SndCtA (P.alt io raw ge) d f as hs hp v:=fun io' raw' ge' hn=>by rw [alt_alt]; exact c io' raw' ge' hn
theorem Ors.alt {os:Nat→List En} (O:Ors P d os):Ors (P.alt io raw ge) d os:=fun fi p hp=>⟨(O fi p hp).1,(O fi p hp).2.alt⟩
noncomputable def GdA (P:Pm) (gn:Nat→Str):Prop:=∀ io raw ge,Num io raw→Gd (P.alt io raw ge) gn
theorem calls_all (D:GdA P gn) (k:Nat):∀ io raw ge,Num io raw→SndCF (P.alt io raw ge) k (callF k):=fun io raw ge hn=>(D io raw ge hn).calls k
theorem iter_all (D:GdA P gn) (K:KtOk P) {os:Nat→List En} {b:Nat} (O:Ors P b os) {base:CF} (SC:∀ io raw ge,Num io raw→SndCF (P.alt io raw ge) b base) (k:Nat):∀ io raw ge,Num io raw→SndCF (P.alt io raw ge) (b + k) (iterO os base k):=
 fun io raw ge hn=>iterO_ok (D io raw ge hn) K O.alt (SC io raw ge hn) k
theorem Ors.up {os:Nat→List En} {d d':Nat} (O:Ors P d os) (h:d≤d'):Ors P d' os:=fun fi p hp=>⟨(O fi p hp).1,fun io raw ge hn C ok=>(O fi p hp).2 io raw ge hn C (ok.low h)⟩
end
end Mine
namespace Mine
noncomputable section
variable {P:Pm} {C:Cx} {W W':Wd} {h h':Hp} {env:List V} {s:Shared} {d n:Nat} {gn:Nat→Str}
noncomputable def xOne:X:=.asgn (.tname 1) (.comp (.bin 4 (.loc 7) (.int 1000000007)) 7 (.slice (.loc 0) .none (.int 3) .none) (.bool true))
noncomputable def xTwo:X:=.if_ (.cmp 0 (.loc 1) (.lst .nil)) (.scons (.asgn (.tname 1) (.lst (.cons (.int 468) .nil))) .snil) .snil
noncomputable def lawEnv (a:Nat):List V:=[.ref 0,.ref a,.ub,.ub,.ub,.ub,.ub,.ub]
noncomputable def lawEnv0:List V:=[.ref 0,.ub,.ub,.ub,.ub,.ub,.ub,.ub]
noncomputable def lawH (k:Nat) (t:Tr V) (rs:List ((Nat×Nat×Nat)×Nat)):Hp:=⟨.node (some (.list k t)) .nil .nil,1,rs,[]⟩
noncomputable def lawH1 (k:Nat) (t:Tr V) (rs:List ((Nat×Nat×Nat)×Nat)) (ys zs:List V):Hp:=⟨((lawH k t rs).t.put 1 (mkL ys)).put 2 (mkL zs),3,rs,[]⟩
theorem one_eq {k:Nat} {t:Tr V} {rs:List ((Nat×Nat×Nat)×Nat)} {xs:List V} {cf:CF} (e:toL t k=some xs) {r:R} (hr:(R.newL (lawH k t rs) (xs.take 3)).bv (fun sv h=>R.ofO (srcOf h sv) fun src=>(compLoop (cBin 4 (cLoc 7) (cV (.int 1000000007))) (cV (.bool true)) 7 cf .none src lawEnv0 400 0 h).bvs fun xs h=>R.newL h (xs))=r) :
  sem xOne cf .none lawEnv0 (lawH k t rs)=r.bv fun v h=>.nx (lset v lawEnv0 1) h:=by
 subst hr
 have z:sliceV .none (.int 3) .none (lawH k t rs) (.ref 0)=R.newL (lawH k t rs) (xs.take 3):=by
  show R.ofO (toL t k) (fun xs=>R.newL (lawH k t rs) (xs.take 3))=_
  rw [e]; rfl
 rw [← z]
 rfl
theorem one_0 {k:Nat} {t:Tr V} {rs:List ((Nat×Nat×Nat)×Nat)} {cf:CF} (e:toL t k=some []):sem xOne cf .none lawEnv0 (lawH k t rs)=.nx (lawEnv 2) (lawH1 k t rs [] []):=by
 refine (one_eq e rfl).trans ?_
 kernel_rfl
theorem one_1 {k:Nat} {t:Tr V} {rs:List ((Nat×Nat×Nat)×Nat)} {cf:CF} (e:toL t k=some [.si (.raw 0)]):sem xOne cf .none lawEnv0 (lawH k t rs)=.nx (lawEnv 2) (lawH1 k t rs [.si (.raw 0)] [.si (.n 0 1)]):=by
 refine (one_eq e rfl).trans ?_
 kernel_rfl
theorem one_2 {k:Nat} {t:Tr V} {rs:List ((Nat×Nat×Nat)×Nat)} {cf:CF} (e:toL t k=some [.si (.raw 0),.si (.raw 1)]):sem xOne cf .none lawEnv0 (lawH k t rs)=.nx (lawEnv 2) (lawH1 k t rs [.si (.raw 0),.si (.raw 1)] [.si (.n 0 1),.si (.n 1 1)]):=by
 refine (one_eq e rfl).trans ?_
 kernel_rfl
theorem one_3 {k:Nat} {t:Tr V} {rs:List ((Nat×Nat×Nat)×Nat)} {cf:CF} {xs:List V} (e:toL t k=some ([.si (.raw 0),.si (.raw 1),.si (.raw 2)] ++ xs)):sem xOne cf .none lawEnv0 (lawH k t rs)=.nx (lawEnv 2) (lawH1 k t rs [.si (.raw 0),.si (.raw 1),.si (.raw 2)] [.si (.n 0 1),.si (.n 1 1),.si (.n 2 1)]):=by
 refine (one_eq e rfl).trans ?_
 kernel_rfl
noncomputable def numsV:Nat→List V
 | 0=>[.si (.n 0 1)]
 | 1=>[.si (.n 0 1)]
 | 2=>[.si (.n 0 1),.si (.n 1 1)]
 | _=>[.si (.n 0 1),.si (.n 1 1),.si (.n 2 1)]
theorem two_1 {k:Nat} {t:Tr V} {rs:List ((Nat×Nat×Nat)×Nat)} {cf:CF} {ys:List V}:∃ tt,sem xTwo cf .none (lawEnv 2) (lawH1 k t rs ys [.si (.n 0 1)])=.nx (lawEnv 2) ⟨tt,4,rs,[]⟩∧tt.get 2=some (mkL [.si (.n 0 1)]):=⟨((lawH1 k t rs ys [.si (.n 0 1)]).t).put 3 (mkL []),by kernel_rfl,by kernel_rfl⟩
theorem two_2 {k:Nat} {t:Tr V} {rs:List ((Nat×Nat×Nat)×Nat)} {cf:CF} {ys:List V}:∃ tt,sem xTwo cf .none (lawEnv 2) (lawH1 k t rs ys [.si (.n 0 1),.si (.n 1 1)])=.nx (lawEnv 2) ⟨tt,4,rs,[]⟩∧tt.get 2=some (mkL [.si (.n 0 1),.si (.n 1 1)]):=⟨((lawH1 k t rs ys [.si (.n 0 1),.si (.n 1 1)]).t).put 3 (mkL []),by kernel_rfl,by kernel_rfl⟩
theorem two_3 {k:Nat} {t:Tr V} {rs:List ((Nat×Nat×Nat)×Nat)} {cf:CF} {ys:List V}:∃ tt,sem xTwo cf .none (lawEnv 2) (lawH1 k t rs ys [.si (.n 0 1),.si (.n 1 1),.si (.n 2 1)])=.nx (lawEnv 2) ⟨tt,4,rs,[]⟩∧tt.get 2=some (mkL [.si (.n 0 1),.si (.n 1 1),.si (.n 2 1)]):=⟨((lawH1 k t rs ys [.si (.n 0 1),.si (.n 1 1),.si (.n 2 1)]).t).put 3 (mkL []),by kernel_rfl,by kernel_rfl⟩
theorem two_0 {k:Nat} {t:Tr V} {rs:List ((Nat×Nat×Nat)×Nat)} {cf:CF}:∃ tt,sem xTwo cf .none (lawEnv 2) (lawH1 k t rs [] [])=.nx (lawEnv 4) ⟨tt,5,rs,[]⟩∧tt.get 4=some (mkL [.int 468]):=⟨(((lawH1 k t rs [] []).t).put 3 (mkL [])).put 4 (mkL [.int 468]),by kernel_rfl,by kernel_rfl⟩
end
end Mine
namespace Mine
noncomputable section
variable {P:Pm} {C:Cx} {W W':Wd} {h h':Hp} {env:List V} {s:Shared} {d n:Nat} {gn:Nat→Str} {cf:CF}
noncomputable def startH (nums:List V) (rs:List ((Nat×Nat×Nat)×Nat)):Hp:=⟨.node none (.node (some (mkL nums)) .nil .nil) .nil,2,rs,[]⟩
noncomputable def Shape (c:Nat) (xs:List V):Prop:=match c with
 | 0=>xs=[]
 | 1=>xs=[.si (.raw 0)]
 | 2=>xs=[.si (.raw 0),.si (.raw 1)]
 | _=>∃ r,xs=[.si (.raw 0),.si (.raw 1),.si (.raw 2)] ++ r
theorem startH_get {nums:List V} {rs:List ((Nat×Nat×Nat)×Nat)} {a:Nat} {o:O} (e:(startH nums rs).t.get a=some o):a=1∧o=mkL nums:=by
 have e:(Tr.node none (.node (some (mkL nums)) .nil .nil) .nil).get a=some o:=e
 rw [Tr.get_node] at e
 by_cases h0:a=0
 ·rw [if_pos h0] at e; exact oX e
 ·rw [if_neg h0] at e
  by_cases p:a % 2=1
  ·rw [if_pos p,Tr.get_node] at e
   by_cases q:a / 2=0
   ·rw [if_pos q] at e; (obtain rfl:=Option.some.inj e); exact ⟨by lia,rfl⟩
   ·rw [if_neg q] at e
    split at e <;> exact oX e
  ·rw [if_neg p] at e; exact oX e
noncomputable def sg (a i:Nat):Nat:=if i=0 then 0 else a
theorem start_st {a:Nat} {zs nums:List V} {rs:List ((Nat×Nat×Nat)×Nat)} (S:St P C W h (lawEnv a) s) (ha:0 < a) (hn:a < h.n) (hg:h.t.get a=some (mkL zs)) (hl:nums.length=zs.length) (hrs:h.rs=rs)
  (hv:∀ i v,(Tr.ofL nums).get i=some v→∃ v',(Tr.ofL zs).get i=some v'∧∀ W n W' n' y,RV P W n v' y→RV P W' n' v y):St P C (W.via (sg a)) (startH nums rs) (lawEnv 1) s:=by
 have R:=S.rel
 have g0:∀ i,i < 2→sg a i < h.n:=fun i hi=>by unfold sg; split <;> lia
 refine ⟨⟨R.nod,fun i j hi hj e=>?_,fun b o e=>?_,fun i hi=>R.dom _ (g0 i hi),by rw [← hrs]; exact R.res,fun b hb=>absurd hb List.not_mem_nil,R.low,R.non,by show 2≤16000000; lia⟩,?_,S.nw,S.gens,S.os⟩
 ·have hi:i < 2:=hi
  have hj:j < 2:=hj
  have:=R.inj _ _ (g0 i hi) (g0 j hj) e
  unfold sg at this
  split at this <;> split at this <;> lia
 ·obtain ⟨rfl,rfl⟩:=startH_get e
  refine ⟨by show 1 < 2; lia,?_⟩
  refine pL fun G0 hG0=>?_
  obtain ⟨its,ep,q1,q2,q3,q4⟩:=(R.obj a _ hg).2
  refine hG0 ?_
  refine ⟨its,ep,q1,q2.trans hl.symm,hl▸q3,fun i v l e=>?_⟩
  refine pL fun G0 hG0=>?_
  obtain ⟨v',e',f⟩:=hv i v e
  obtain ⟨x,g1,g2⟩:=q4 i v' (hl▸l) e'
  refine hG0 ?_
  exact ⟨x,g1,f _ _ _ _ x g2⟩
 ·obtain ⟨m,F,E⟩:=S.fr
  refine ⟨m,F,fun i x v h1 h2 h3=>?_⟩
  match i,h2 with
  | 0,h2=>
   refine pL fun G0 hG0=>?_
   (obtain rfl:=Option.some.inj h2)
   obtain ⟨y,a1,a2⟩:=E 0 x (.ref 0) h1 rfl nofun
   refine hG0 ?_
   refine ⟨y,a1,?_⟩
   simp only [RV] at a2 ⊢
   exact ⟨by show 0 < 2; lia,a2.2⟩
  | 1,h2=>
   refine pL fun G0 hG0=>?_
   (obtain rfl:=Option.some.inj h2)
   obtain ⟨y,a1,a2⟩:=E 1 x (.ref a) h1 rfl nofun
   refine hG0 ?_
   refine ⟨y,a1,?_⟩
   simp only [RV] at a2 ⊢
   exact ⟨by show 1 < 2; lia,a2.2⟩
  | 2,h2=>(obtain rfl:=Option.some.inj h2); exact absurd rfl h3
  | 3,h2=>(obtain rfl:=Option.some.inj h2); exact absurd rfl h3
  | 4,h2=>(obtain rfl:=Option.some.inj h2); exact absurd rfl h3
  | 5,h2=>(obtain rfl:=Option.some.inj h2); exact absurd rfl h3
  | 6,h2=>(obtain rfl:=Option.some.inj h2); exact absurd rfl h3
  | 7,h2=>(obtain rfl:=Option.some.inj h2); exact absurd rfl h3
  | i + 8,h2=>exact oX h2
theorem ofL_1 {v w:V} {i:Nat} (e:(Tr.ofL [v]).get i=some w):i=0∧w=v:=by
 have e:(Tr.node (some v) .nil .nil).get i=some w:=e
 rw [Tr.get_node] at e
 by_cases h0:i=0
 ·rw [if_pos h0] at e; (obtain rfl:=Option.some.inj e); exact ⟨h0,rfl⟩
 ·rw [if_neg h0] at e
  split at e <;> exact oX e
theorem same_v {nums:List V} (hn:∀ i v,(Tr.ofL nums).get i=some v→∃ k c,v=.si (.n k c)):∀ i v,(Tr.ofL nums).get i=some v→∃ v',(Tr.ofL nums).get i=some v'∧∀ W n W' n' y,RV P W n v' y→RV P W' n' v y:=fun i v e=>by
 obtain ⟨k,c,rfl⟩:=hn i v e
 exact ⟨_,e,fun _ _ _ _ y q=>by simp only [RV] at q ⊢; exact q⟩
theorem nums_si:∀ (c:Nat) (i:Nat) (v:V),(Tr.ofL (numsV c)).get i=some v→∃ k c,v=.si (.n k c):=by
 have key:∀ l:List V,(∀ v∈l,∃ k c,v=V.si (.n k c))→l.length < 1000→∀ i v,(Tr.ofL l).get i=some v→∃ k c,v=.si (.n k c):=by
  intro l hl hs i v e
  have go:∀ (l:List V) (j:Nat) (t:Tr V),j + l.length < 16000000→(∀ v∈l,∃ k c,v=V.si (.n k c))→(∀ i v,t.get i=some v→∃ k c,v=V.si (.n k c))→∀ i v,(Tr.ofLf l j t).get i=some v→∃ k c,v=.si (.n k c):=by
   intro l
   induction l with
   | nil=>intro j t _ _ ht i v e; exact ht i v e
   | cons x l ih=>
    intro j t hj hl ht i v e
    have e:(Tr.ofLf l (Nat.succ j) (t.put j x)).get i=some v:=e
    refine ih (Nat.succ j) (t.put j x) (by rw [List.length_cons] at hj; lia) (fun v hv=>hl v (.tail _ hv)) (fun i v e=>?_) i v e
    rw [Tr.get_put _ _ _ _ (lt24 (by lia))] at e
    by_cases q:j=i
    ·rw [if_pos q] at e; (obtain rfl:=Option.some.inj e); exact hl x (.head _)
    ·rw [if_neg q] at e; exact ht i v e
  exact go l 0 .nil (by lia) hl (fun i v e=>by exact oX e) i v e
 intro c
 refine key (numsV c) (fun v hv=>?_) ?_
 ·unfold numsV at hv
  split at hv <;> (simp only [List.mem_cons,List.not_mem_nil,or_false] at hv; rcases hv with rfl | rfl | rfl) <;> exact ⟨_,_,rfl⟩
 ·unfold numsV; split <;> simp
noncomputable def Done (C:Cx) (l:Addr) (its:Array Value) (s':Shared):Prop:=s'.heap.get? l=some (listOf its 0)∧(∃ m,Fr C.h₀ C.L s'.heap m)∧s'.gens=C.gens∧s'.os=C.os
theorem law_body {l:Addr} {its:Array Value} {st1 st2:Stmt} {rest:List Stmt} {xr:X} {k:Nat} {t:Tr V} {rs:List ((Nat×Nat×Nat)×Nat)} {xs:List V} {c:Nat} {hF:Hp} {Q:Flow→Shared→Prop} {E:Value→Shared→Prop}
  (S1:SndS P C (fun env h=>sem xOne cf .none env h) st1) (S2:SndS P C (fun env h=>sem xTwo cf .none env h) st2) (S3:SndSs P C (fun env h=>sem xr cf .none env h) rest)
  (S0:St P C ⟨fun _=>l,[(l,listOf its 0)]⟩ (lawH k t rs) lawEnv0 s) (hx:toL t k=some xs) (hs:Shape c xs) (h468:c=0→P.io 0=468)
  (run:sem xr cf .none (lawEnv 1) (startH (numsV c) rs)=.rt (.bool true) hF) (hw:memB 0 hF.wr=false) (q:∀ s',Done C l its s'→Q (.ret (.bool true)) s') :
  wpAny (Cx.M P) C.A (execs (st1::st2::rest) C.env) Q E s:=by
 have done:∀ {W:Wd} {h:Hp} {a:Nat} {zs:List V} {s:Shared},St P C W h (lawEnv a) s→0 < a→a < h.n→h.t.get a=some (mkL zs)→(numsV c).length=zs.length→h.rs=rs→
   (∀ i v,(Tr.ofL (numsV c)).get i=some v→∃ v',(Tr.ofL zs).get i=some v'∧∀ W n W' n' y,RV P W n v' y→RV P W' n' v y)→W.si 0=l→(l,listOf its 0)∈W.ns→wpAny (Cx.M P) C.A (execs rest C.env) Q E s:=by
  intro W h a zs s S ha hn hg hl hrs hv h0 hm
  have St1:=start_st (nums:=numsV c) S ha hn hg hl hrs hv
  refine S3 _ _ _ s Q E St1 ?_
  show Out P C (W.via (sg a)) (startH (numsV c) rs) Q (sem xr cf .none (lawEnv 1) (startH (numsV c) rs))
  rw [run]
  intro W' s' y X S' rv
  simp only [RV] at rv
  subst rv
  obtain ⟨m',F',_⟩:=S'.fr
  refine q s' ⟨S'.nw.get (X.keep l _ hm fun i hi e=>?_),⟨m',F'⟩,S'.gens,S'.os⟩
  have e0:W'.si 0=l:=(X.L.si 0 (by show 0 < 2; lia)).trans h0
  have hn':2≤hF.n:=X.L.le
  have i0:i=0:=S'.rel.inj i 0 (S'.rel.wr i hi) (by lia) (e.trans e0.symm)
  rw [i0] at hi
  rw [memB_of hi] at hw
  exact bX hw
 have m0:((l,listOf its 0):Addr×Obj)∈(⟨fun _=>l,[(l,listOf its 0)]⟩:Wd).ns:=.head _
 rw [execs_cons]
 refine wpAny_bind (S1 _ _ _ s _ E S0 ?_)
 show Out P C _ (lawH k t rs) _ (sem xOne cf .none lawEnv0 (lawH k t rs))
 have mid:∀ {ys zs:List V},sem xOne cf .none lawEnv0 (lawH k t rs)=.nx (lawEnv 2) (lawH1 k t rs ys zs)→
   (∀ {W s},St P C W (lawH1 k t rs ys zs) (lawEnv 2) s→W.si 0=l→(l,listOf its 0)∈W.ns→wpAny (Cx.M P) C.A (execs (st2::rest) C.env) Q E s)→
   Out P C ⟨fun _=>l,[(l,listOf its 0)]⟩ (lawH k t rs) (fun f s'=>wpAny (Cx.M P) C.A (match f with | .next=>execs (st2::rest) C.env | f=>pure f) Q E s') (sem xOne cf .none lawEnv0 (lawH k t rs)):=by
  intro ys zs e k2
  rw [e]
  intro W1 s1 X1 S1'
  exact k2 S1' (X1.L.si 0 (by show 0 < 1; lia)) (X1.keep l _ m0 fun i hi=>absurd hi List.not_mem_nil)
 have mid2:∀ {ys zs:List V} {a nn:Nat} {tt:Tr O},sem xTwo cf .none (lawEnv 2) (lawH1 k t rs ys zs)=.nx (lawEnv a) ⟨tt,nn,rs,[]⟩→
   (∀ {W s},St P C W ⟨tt,nn,rs,[]⟩ (lawEnv a) s→W.si 0=l→(l,listOf its 0)∈W.ns→wpAny (Cx.M P) C.A (execs rest C.env) Q E s)→
   ∀ {W s},St P C W (lawH1 k t rs ys zs) (lawEnv 2) s→W.si 0=l→(l,listOf its 0)∈W.ns→wpAny (Cx.M P) C.A (execs (st2::rest) C.env) Q E s:=by
  intro ys zs a nn tt e k3 W s S h0 hm
  rw [execs_cons]
  refine wpAny_bind (S2 _ _ _ s _ E S ?_)
  show Out P C _ (lawH1 k t rs ys zs) _ (sem xTwo cf .none (lawEnv 2) (lawH1 k t rs ys zs))
  rw [e]
  intro W1 s1 X1 S1'
  exact k3 S1' ((X1.L.si 0 (by show 0 < 3; lia)).trans h0) (X1.keep l _ hm fun i hi=>absurd hi List.not_mem_nil)
 match c,hs with
 | 0,hs=>
  refine pL fun G0 hG0=>?_
  have hs:xs=[]:=hs
  subst hs
  obtain ⟨tt,e2,e3⟩:=two_0 (k:=k) (t:=t) (rs:=rs) (cf:=cf)
  refine hG0 ?_
  refine mid (one_0 hx) (mid2 e2 fun S h0 hm=>done S (by lia) (by show 4 < 5; lia) e3 rfl rfl (fun i v e=>?_) h0 hm)
  obtain ⟨rfl,rfl⟩:=ofL_1 (show (Tr.ofL [V.si (.n 0 1)]).get i=some v from e)
  refine ⟨.int 468,rfl,fun _ _ _ _ y r=>?_⟩
  simp only [RV] at r ⊢
  obtain ⟨tk,rfl⟩:=r
  refine ⟨tk,?_⟩
  simp only [SI.val]
  rw [h468 rfl]; rfl
 | 1,hs=>
  refine pL fun G0 hG0=>?_
  have hs:xs=[.si (.raw 0)]:=hs
  subst hs
  obtain ⟨tt,e2,e3⟩:=two_1 (k:=k) (t:=t) (rs:=rs) (cf:=cf) (ys:=[.si (.raw 0)])
  refine hG0 ?_
  exact mid (one_1 hx) (mid2 e2 fun S h0 hm=>done S (by lia) (by show 2 < 4; lia) e3 rfl rfl (same_v (nums_si 1)) h0 hm)
 | 2,hs=>
  refine pL fun G0 hG0=>?_
  have hs:xs=[.si (.raw 0),.si (.raw 1)]:=hs
  subst hs
  obtain ⟨tt,e2,e3⟩:=two_2 (k:=k) (t:=t) (rs:=rs) (cf:=cf) (ys:=[.si (.raw 0),.si (.raw 1)])
  refine hG0 ?_
  exact mid (one_2 hx) (mid2 e2 fun S h0 hm=>done S (by lia) (by show 2 < 4; lia) e3 rfl rfl (same_v (nums_si 2)) h0 hm)
 | c + 3,hs=>
  refine pL fun G0 hG0=>?_
  have hs:∃ r:List V,xs=([.si (.raw 0),.si (.raw 1),.si (.raw 2)]:List V) ++ r:=hs
  obtain ⟨r,rfl⟩:=hs
  obtain ⟨tt,e2,e3⟩:=two_3 (k:=k) (t:=t) (rs:=rs) (cf:=cf) (ys:=[.si (.raw 0),.si (.raw 1),.si (.raw 2)])
  refine hG0 ?_
  exact mid (one_3 hx) (mid2 e2 fun S h0 hm=>done S (by lia) (by show 2 < 4; lia) e3 rfl rfl (same_v (nums_si (c + 3))) h0 hm)
end
end Mine
namespace Mine
noncomputable section
variable {P:Pm} {C:Cx} {W W':Wd} {h h':Hp} {env:List V} {s:Shared} {d n:Nat} {gn:Nat→Str} {cf:CF}
theorem ns_hide {h:Heap} {l a:Addr} {m:Str→Option Value} (N:h.Ns a m) (ha:a≠l):(hideAll h [l]).Ns a m:=by
 obtain ⟨o,es,ep,e,r⟩:=N
 exact ⟨o,es,ep,hideAll_get [l] e (by simpa using ha),r⟩
theorem read_hide {p q:Program} {loose:List Str} {mg mb:Str→Option Value} {h:Heap} {l:Addr} (T:TopRead q loose mg mb h) (h1:mainGlobals≠l) (h2:builtinsNs≠l) (h3:cStatics≠l) :
  TopRead p (loose ++ ((recsOf q).map (·.name) ++ ((litsOf q).map (·.1) ++ (clssOf q loose).map (·.name)))) mg mb (hideAll h [l]):=by
 refine ⟨ns_hide T.g h1,ns_hide T.b h2,?_,T.builtins,fun x a b _ _ _=>?_⟩
 ·obtain ⟨mc,N,e⟩:=T.nolimit
  exact ⟨mc,ns_hide N h3,e⟩
 ·simp only [List.mem_append,not_or] at b
  exact T.free x a b.1 b.2.1 b.2.2.1 b.2.2.2
theorem law_call {mg mb:Str→Option Value} {loose:List Str} {pr:Program} (D:Gd P gn) (pok:POk P) {ih:CF} (SC:SndCF P d ih) (hd:302 + 3 * d≤900) (hu:7 + 8 * d≤9000)
  {xr:X} {fa:Addr} (fo:FnOk P (fun names cs b sts=>(mt ⟨P.nm,gn,names,cs,[]⟩ b).ss sts=true) fa ⟨1,8,.scons xOne (.scons xTwo xr)⟩) {l:Addr} {vs:List Value} (hl:s.heap.get? l=some (listOf vs.toArray 0))
  (T:TopRead pr loose mg mb s.heap) (X:P.K.In (hideAll s.heap [l])) (h1:mainGlobals≠l) (h2:builtinsNs≠l) (h3:cStatics≠l) (h4:sysModules < l)
  {t:Tr V} {xs:List V} {c:Nat} {rs:List ((Nat×Nat×Nat)×Nat)} (hx:toL t vs.length=some xs) (hvs:vs.length≤100000) (hs:Shape c xs) (h468:c=0→P.io 0=468) (hv:∀ i v,i < vs.length→t.get i=some v→∃ x,vs[i]?=some x∧∀ W n,RV P W n v x)
  (hrs:∀ p∈rs,Int.fmod (Int.fdiv (P.io p.1.1) p.1.2.1) p.1.2.2=p.2) {hF:Hp} (run:sem xr ih .none (lawEnv 1) (startH (numsV c) rs)=.rt (.bool true) hF) (hw:memB 0 hF.wr=false)
  {Q:Value→Shared→Prop} {E:Value→Shared→Prop} (q:∀ s',s'.heap.get? l=some (listOf vs.toArray 0)→(∀ b o,b≠l→s.heap.get? b=some o→s'.heap.get? b=some o)→s'.gens=s.gens→s'.os=s.os→Q (.bool true) s') :
  wpAny (Cx.M P) callerA (PySem.call (.ref fa) [.ref l]) Q E s:=by
 obtain ⟨oc,od,osl,name,qual,as,bd,scope,kV,doc,pm,an,cdv,ct,names,hK,hcd,hnp,htk,hnl,hle,hnd,hloc,hdbg,hco,hgen,hkind,hcell,hmm⟩:=fo
 obtain ⟨st1,r1,rfl,m1,hm⟩:=fSs_i hmm
 obtain ⟨st2,rest,rfl,m2,m3⟩:=fSs_i hm
 have X':P.K.In s.heap:=fun a o e=>of_hideAll _ (X a o e)
 obtain ⟨p0,hp0⟩:∃ p0,as=[p0]:=by
  match as,hnp with
  | [p0],_=>exact ⟨p0,rfl⟩
 subst hp0
 have hnd':(List.map (·.arg) [p0]).Nodup:=List.nodup_cons.mpr ⟨List.not_mem_nil,List.nodup_nil⟩
 have hin:p0.arg∈names:=List.mem_of_mem_take (i:=1) (by rw [htk]; exact .head _)
 refine call_of_code ?_
 have hf:callerA.frames=some []:=rfl
 refine codeAny_call_def (fd:=fnX name qual ⟨[],[p0],none,[],[],none,[]⟩ (st1::st2::rest) scope [] .none kV doc pm an cdv ct) (body:=st1::st2::rest) (binds:=[(p0.arg,.ref l)]) (by show 301 < 1000; decide) (X' _ _ hK) rfl T.nolimit (codeRec_of X' hcd) rfl
  (BindsTo.of_eq (bind_simple (vs:=[.ref l]) rfl rfl rfl hnd')) hcell (fun x hx=>?_) (fun hp hns hk=>?_) hco hgen hkind
 ·rcases List.mem_singleton.mp hx with rfl
  exact hloc _ hin
 ·let C':Cx:={ loose:=loose ++ ((recsOf pr).map (·.name) ++ ((litsOf pr).map (·.1) ++ (clssOf pr loose).map (·.name))),mg:=mg,mb:=mb,base:=hideAll s.heap [l],h₀:=hideAll s.heap [l],outer:=[],A₀:=callerA,A:=callerA.deeper (envOf qual scope s.heap.objs.size fa cdv),L:=s.heap.objs.size,a:=fa,cn:=qual,cs:=scope,ccd:=cdv,names:=names,cl:=[],gens:=s.gens,os:=s.os }
  have ok':C'.Ok P d:=by
   refine ⟨pok,below_caller _,Around.frames_deeper hf,X,read_hide T h1 h2 h3,?_,?_,rfl,hkind,hnd,fun x hx _=>hloc x hx,fun x c e=>(nomatch e),hdbg⟩
   ·show 302 + 3 * d≤900; exact hd
   ·show 4 + 3 + 8 * d≤9000; exact hu
  have B:Bx P ⟨P.nm,gn,names,C'.cs,[]⟩ C' d ih:=D.bx SC ok' rfl fun y hy=>absurd hy List.not_mem_nil
  have n0:names[0]?=some p0.arg:=by
   have z:(names.take 1)[0]?=some p0.arg:=by rw [htk]; rfl
   rw [List.getElem?_take] at z
   simpa using z
  have Fr0:Fr C'.h₀ C'.L hp (fun x=>[(p0.arg,Value.ref l)].reverse.lookup x):=⟨hns,fun b o e=>hk b o (of_hideAll _ e),Nat.le_of_eq (hideAll_size _ _)⟩
  have S0:St P C' ⟨fun _=>l,[(l,listOf vs.toArray 0)]⟩ (lawH vs.length t rs) lawEnv0 { s with heap:=hp,toks:=s.toks + 1 }:=by
   refine ⟨⟨List.nodup_cons.mpr ⟨List.not_mem_nil,List.nodup_nil⟩,fun a b ha hb _=>?_,fun a o e=>?_,fun a ha=>.head _,hrs,fun a ha=>absurd ha List.not_mem_nil,fun p hp'=>?_,nofun,by show 1≤16000000; lia⟩,⟨_,Fr0,fun i x v a1 a2 a3=>?_⟩,fun p hp'=>?_,rfl,rfl⟩
   ·have ha:a < 1:=ha
    have hb:b < 1:=hb
    lia
   ·have e:(Tr.node (some (O.list vs.length t)) .nil .nil).get a=some o:=e
    rw [Tr.get_node] at e
    by_cases q0:a=0
    ·rw [if_pos q0] at e
     (obtain rfl:=Option.some.inj e)
     refine ⟨by show a < 1; lia,⟨vs.toArray,0,.head _,rfl,hvs,fun i v li e=>?_⟩⟩
     obtain ⟨x,b1,b2⟩:=hv i v li e
     exact ⟨x,by rw [List.getElem?_toArray]; exact b1,b2 _ _⟩
    ·rw [if_neg q0] at e
     split at e <;> exact oX e
   ·rcases List.mem_singleton.mp hp' with rfl
    exact h4
   ·match i,a2 with
    | 0,a2=>
     (obtain rfl:=Option.some.inj a2)
     have a1:names[0]?=some x:=a1
     rw [n0] at a1
     (obtain rfl:=Option.some.inj a1)
     refine ⟨.ref l,.inl ⟨rfl,by simp [List.lookup_cons]⟩,?_⟩
     simp only [RV,and_true]
     show 0 < 1
     lia
    | 1,a2=>(obtain rfl:=Option.some.inj a2); exact absurd rfl a3
    | 2,a2=>(obtain rfl:=Option.some.inj a2); exact absurd rfl a3
    | 3,a2=>(obtain rfl:=Option.some.inj a2); exact absurd rfl a3
    | 4,a2=>(obtain rfl:=Option.some.inj a2); exact absurd rfl a3
    | 5,a2=>(obtain rfl:=Option.some.inj a2); exact absurd rfl a3
    | 6,a2=>(obtain rfl:=Option.some.inj a2); exact absurd rfl a3
    | 7,a2=>(obtain rfl:=Option.some.inj a2); exact absurd rfl a3
    | i + 8,a2=>exact oX a2
   ·rcases List.mem_singleton.mp hp' with rfl
    exact ⟨hk _ _ hl,Nat.ne_of_lt (Heap.lt_size hl),hideAll_none [l] (.head _)⟩
  refine wpAny_mono (law_body (C:=C') (cf:=ih) (l:=l) (its:=vs.toArray) (Q:=fun fl s'=>Ret Q E (.ok (.ret (match fl with | .ret v=>v | _=>.none))) s') (E:=fun _ _=>False) ((snd_mt B xOne).s st1 m1 .none) ((snd_mt B xTwo).s st2 m2 .none) ((snd_mt B xr).ss rest m3 .none) S0 hx hs h468 run hw fun s' dn=>?_) (fun fl s' z=>?_) (fun _ _ z=>z.elim)
  ·obtain ⟨d1,⟨m,F⟩,d3,d4⟩:=dn
   exact q s' d1 (fun b o hb e=>F.keep b o (hideAll_get [l] e (by simpa using hb))) d3 d4
  ·exact z
end
end Mine
namespace Mine
noncomputable section
noncomputable def rsOf (c:Nat) (r:Nat→Nat):List ((Nat×Nat×Nat)×Nat):=match c with
 | 0=>[((0,1,5),r 0)]
 | 1=>[((0,1,5),r 0)]
 | 2=>[((0,1,5),r 0),((1,1,5),r 1)]
 | _=>[((0,1,5),r 0),((1,1,5),r 1),((2,1,5),r 2)]
theorem toLgo_of {t:Tr V} {xs:List V}:∀ (n:Nat) (acc:List V),n≤xs.length→(∀ i,i < n→t.get i=xs[i]?)→toLgo t n acc=some (xs.take n ++ acc)
 | 0,acc,_,_=>rfl
 | n + 1,acc,hn,hi=>by
  have e:t.get n=some (xs[n]'(by lia)):=(hi n (by lia)).trans (List.getElem?_eq_getElem (by lia))
  show (match t.get n with | some v=>toLgo t n (v::acc) | none=>none)=_
  rw [e]
  show toLgo t n (xs[n]'(by lia)::acc)=_
  have z:xs.take (n + 1)=xs.take n ++ [xs[n]'(by lia)]:=by rw [List.take_succ,List.getElem?_eq_getElem (by lia:n < xs.length)]; rfl
  rw [toLgo_of n _ (by lia) fun i h=>hi i (by lia),z,List.append_assoc]
  rfl
theorem toL_ofL {xs:List V} (h:xs.length < 16000000):toL (Tr.ofL xs) xs.length=some xs:=by
 rw [toL_go,toLgo_of xs.length [] (Nat.le_refl _) fun i _=>ofL_get xs i h]
 simp
noncomputable def rawL (n:Nat):List V:=(List.range n).map fun i=>if i < 3 then .si (.raw i) else .bad
theorem rawL_len (n:Nat):(rawL n).length=n:=by simp [rawL]
theorem rawL_get {n i:Nat} {v:V} (e:(rawL n)[i]?=some v):i < n∧(v=.si (.raw i)∨v=.bad):=by
 unfold rawL at e
 rw [List.getElem?_map] at e
 induction q:(List.range n)[i]? using Option.casesOn with
 | none=>rw [q] at e; exact oX e
 | some j=>
  rw [q] at e
  obtain ⟨hi,e2⟩:=List.getElem?_eq_some_iff.mp q
  rw [List.getElem_range] at e2
  subst e2
  refine ⟨by simpa using hi,?_⟩
  have e:(if i < 3 then V.si (.raw i) else .bad)=v:=by simpa using e
  by_cases w:i < 3
  ·rw [if_pos w] at e; exact .inl e.symm
  ·rw [if_neg w] at e; exact .inr e.symm
theorem rawL_shape (n:Nat):Shape (min n 3) (rawL n):=by
 match n with
 | 0=>rfl
 | 1=>rfl
 | 2=>rfl
 | n + 3=>
  rw [show min (n + 3) 3=3 by lia]
  refine ⟨(rawL (n + 3)).drop 3,?_⟩
  rw [show ([.si (.raw 0),.si (.raw 1),.si (.raw 2)]:List V)=(rawL (n + 3)).take 3 from ?_,List.take_append_drop]
  refine List.ext_getElem? fun i=>?_
  rw [List.getElem?_take]
  match i with
  | 0=>simp [rawL]
  | 1=>simp [rawL]
  | 2=>simp [rawL]
  | i + 3=>rw [if_neg (by omega)]; rfl
theorem ints_get:∀ {vs:List Value} {ns:List Int},IntsAre vs ns→∀ i,i < vs.length→∃ t,vs[i]?=some (.int (ns.getD i 0) t)
 | _,_,.nil,i,h=>absurd h (Nat.not_lt_zero _)
 | _,_,.cons n t r,0,h=>⟨t,rfl⟩
 | _,_,.cons n t r,i + 1,h=>by
  obtain ⟨u,e⟩:=ints_get r i (Nat.lt_of_succ_lt_succ h)
  exact ⟨u,by simpa using e⟩
theorem walk_of {q:Program} {loose:List Str} {H1:Params→Heap} {K:Params→Frag} {d:DefRec} {kwd:List (Str×Expr)} {base:World→Nat→Pm} {gn:Nat→Str} {ih:CF} {dd:Nat} {xr:X} {lawA:Addr}
  (hprog:∀ w sh,(base w sh).prog=PySem.Challenge.rw_xm0345_01.row.prog) (hw:∀ w sh,(base w sh).w=w) (hK:∀ w sh,(base w sh).K=K w.params) (hname:d.name="law")
  (hIn:∀ P,(K P).In (H1 P)) (hlaw:∀ P,nsIn (K P) mainGlobals "law"=some (some (.ref lawA))) (hsz:∀ P,100 < (H1 P).objs.size) (hK0:∀ P,(K P).all (fun p=>Nat.blt p.1 (H1 P).objs.size)=true)
  (hpok:∀ w sh io raw ge,Num io raw→POk ((base w sh).alt io raw ge)) (D:∀ w sh,GdA (base w sh) gn)
  (fo:∀ w sh io raw ge,FnOk ((base w sh).alt io raw ge) (fun names cs b sts=>(mt ⟨(base w sh).nm,gn,names,cs,[]⟩ b).ss sts=true) lawA ⟨1,8,.scons xOne (.scons xTwo xr)⟩)
  (SC:∀ (w:World) (sh:Nat) io raw ge,Num io raw→sh < 4→Int.fmod (Int.fdiv (io 0) 1) 4=(sh:Int)→SndCF ((base w sh).alt io raw ge) dd ih) (hd:302 + 3 * dd≤900) (hu:7 + 8 * dd≤9000)
  (runs:∀ c r,c≤3→(∀ k,r k < 5)→∃ hF,sem xr ih .none (lawEnv 1) (startH (numsV c) (rsOf c r))=.rt (.bool true) hF∧memB 0 hF.wr=false) :
  WalkX q loose (fun _ _=>True) (fun s:Shared=>s.heap) (fun w:World=>H1 w.params) PySem.Challenge.rw_xm0345_01.row.toRowW d kwd (fun f vs=>PySem.call f vs):=by
 intro w s₀ s₁ mg mb G y fa o pm cd doc dV kV ho hd' hcd hD hmg hg args vals as L hpre hlay hrd hwl hlo
 wrow_args hpre hlay hrd hwl hlo
 rename_i ns hs hlay0 hL1 hr1 hl2 as1 as2 l vs as3 hL ra wl r0 hI hr hc1 hc2
 subst_vars
 have yy:s₀.heap=H1 w.params:=y
 obtain ⟨hat,hsz'⟩:=X.script_at L
 have hobj:=X.script_obj L hL
 have hlen:vs.length=ns.length:=hI.length
 have X0:(K w.params).In s₀.heap:=by rw [yy]; exact hIn _
 have X1:(K w.params).In s₁.heap:=fun a o e=>L.keeps _ _ (X0 a o e)
 have T:=topRead_of G.T
 have hl0:100 < l:=by rw [hat,yy]; exact hsz _
 have ne:∀ {a:Addr},a≤100→a≠l:=fun h e=>Nat.lt_irrefl _ (Nat.lt_of_lt_of_le hl0 (e▸h))
 have XH:(K w.params).In (hideAll s₁.heap [l]):=fun a o e=>by
  refine hideAll_get [l] (X1 a o e) ?_
  have hm:(a,o)∈K w.params:=by
   have:∀ (M:Frag),M.lookup a=some o→(a,o)∈M:=by
    intro M
    induction M with
    | nil=>intro e; exact oX e
    | cons p M ih=>
     intro e
     obtain ⟨b,x⟩:=p
     rw [List.lookup_cons] at e
     induction w:a == b using Bool.casesOn with
     | true=>rw [w] at e; (obtain rfl:=Option.some.inj e); rw [eq_of_beq w]; exact .head _
     | false=>rw [w] at e; exact .tail _ (ih e)
   exact this _ e
  have:=List.all_eq_true.mp (hK0 w.params) _ hm
  have:=blt_t this
  rw [← yy,← hat] at this
  simp only [List.mem_singleton]
  exact Nat.ne_of_lt this
 have hfa:fa=lawA:=by
  have e:=mg_of X1 T.g (hlaw w.params)
  rw [← hname,hmg] at e
  cases e; rfl
 subst hfa
 have hc:¬ (63:Int) < ns.length:=by simpa using hc1
 let c:=min ns.length 3
 let raw:Nat→Int:=fun k=>if ns.length=0 then 468 else ns.getD k 0
 let io:Nat→Int:=fun k=>Int.fmod (raw k) 1000000007
 have hnum:Num io raw:=fun _=>rfl
 let sh:=(Int.fmod (Int.fdiv (io 0) 1) 4).toNat
 have hsh:Int.fmod (Int.fdiv (io 0) 1) 4=(sh:Int):=(Int.toNat_of_nonneg (Int.fmod_nonneg_of_pos _ (by decide))).symm
 have hsh4:sh < 4:=by
  have:=Int.fmod_lt_of_pos (Int.fdiv (io 0) 1) (b:=4) (by decide)
  omega
 let r:Nat→Nat:=fun k=>(Int.fmod (Int.fdiv (io k) 1) 5).toNat
 have hr5:∀ k,r k < 5:=fun k=>by
  have h1:=Int.fmod_lt_of_pos (Int.fdiv (io k) 1) (b:=5) (by decide)
  have h2:=Int.fmod_nonneg_of_pos (Int.fdiv (io k) 1) (b:=5) (by decide)
  show (Int.fmod (Int.fdiv (io k) 1) 5).toNat < 5
  omega
 have hrk:∀ k,Int.fmod (Int.fdiv (io k) ((1:Nat):Int)) ((5:Nat):Int)=(r k:Int):=fun k=>(Int.toNat_of_nonneg (Int.fmod_nonneg_of_pos _ (by decide))).symm
 obtain ⟨hF,run,hwr⟩:=runs c r (Nat.min_le_right _ _) hr5
 have M:Cx.M ((base w sh).alt io raw fun _=>.none)=model PySem.Challenge.rw_xm0345_01.row.prog w:=by
  show model (base w sh).prog (base w sh).w=_
  rw [hprog,hw]
 rw [← M]
 refine law_call (P:=(base w sh).alt io raw fun _=>.none) (pr:=q) (gn:=gn) (ih:=ih) (d:=dd) (xr:=xr) (fa:=fa) (l:=l) (vs:=vs) (t:=Tr.ofL (rawL vs.length)) (xs:=rawL vs.length) (c:=c) (rs:=rsOf c r) (D w sh io raw _ hnum) (hpok w sh io raw _ hnum) (SC w sh io raw _ hnum hsh4 hsh) hd hu (fo w sh io raw _) hobj T
  (by show (base w sh).K.In _; rw [hK]; exact XH) (ne (by decide)) (ne (by decide)) (ne (by decide)) (by show (_:Nat) < _; exact Nat.lt_trans (by decide) hl0) ?_ (by lia) ?_ ?_ ?_ ?_ run hwr ?_
 ·have:=toL_ofL (xs:=rawL vs.length) (by rw [rawL_len]; lia)
  rwa [rawL_len] at this
 ·show Shape (min ns.length 3) (rawL vs.length)
  rw [hlen]; exact rawL_shape _
 ·intro h0
  have h0:min ns.length 3=0:=h0
  have:ns.length=0:=by lia
  show Int.fmod (if ns.length=0 then 468 else ns.getD 0 0) 1000000007=468
  rw [if_pos this]; rfl
 ·intro i v hi e
  rw [ofL_get _ _ (by rw [rawL_len]; lia)] at e
  obtain ⟨t,ht⟩:=ints_get hI i hi
  refine ⟨_,ht,fun W n=>?_⟩
  rcases (rawL_get e).2 with rfl | rfl
  ·simp only [RV,SI.val]
   refine ⟨t,?_⟩
   show Value.int (ns.getD i 0) t=Value.int (if ns.length=0 then 468 else ns.getD i 0) t
   rw [if_neg (by lia)]
  ·simp only [RV]
 ·intro p hp
  have hc3:∀ c,p∈rsOf c r→Int.fmod (Int.fdiv (io p.1.1) p.1.2.1) p.1.2.2=p.2:=by
   intro c hp
   unfold rsOf at hp
   split at hp <;> (simp only [List.mem_cons,List.not_mem_nil,or_false] at hp; rcases hp with rfl | rfl | rfl) <;> exact hrk _
  exact hc3 c hp
 ·intro s' e1 e2 e3 e4
  refine ⟨.inl ⟨.bool true,.bool true,[],rfl,fun _=>rfl,.bool true,?_,fun _=>⟨List.nodup_nil,fun a ha=>absurd ha List.not_mem_nil⟩⟩,.of_keep fun b o e=>?_,e4,?_⟩
  ·with_unfolding_all rfl
  ·by_cases w:b=l
   ·subst w
    rw [hobj] at e; (obtain rfl:=Option.some.inj e); exact e1
   ·exact e2 b o w e
  ·rw [e3,hg]; exact .of_eq rfl
end
end Mine
namespace Mine
noncomputable section
variable {P:Pm}
theorem b3E {a b c:Bool} {G:Prop} (k:a=true→b=true→c=true→G) (h:b3 a b c=true):G:=k (b3_i h).1 (b3_i h).2.1 (b3_i h).2.2
theorem all_of {α:Type} {Q:α→Prop} {f:α→Bool} {l:List α} (q:∀ x,f x=true→Q x) (h:(List.rec true (fun x _ ih=>f x && ih) l:Bool)=true):∀ x∈l,Q x:=by
 induction l with
 | nil=>exact nofun
 | cons y l ih=>exact andE (fun h1 h2=>List.forall_mem_cons.mpr ⟨q y h1,ih h2⟩) h
noncomputable def sLB (a b:List Str):Bool:=List.rec (motive:=fun _=>List Str→Bool) (fun b=>b.isEmpty) (fun x _ ih=>lC fun y t=>sB x y && ih t) a b
theorem sLB_eq {a:List Str}:∀ b,sLB a b=true→a=b:=by
 induction a with
 | nil=>exact lN_a rfl
 | cons x a ih=>exact lC_a fun y t=>andE fun h1 h2=>by rw [sB_eq h1,ih t h2]
noncomputable def nodS (l:List Str):Bool:=List.rec true (fun x t ih=>!anyS x t && ih) l
theorem anyS_of {x:Str} {l:List Str} (h:x∈l):anyS x l=true:=by
 induction l with
 | nil=>exact absurd h List.not_mem_nil
 | cons y l ih=>
  show (Bool.rec (anyS x l) true (sB x y):Bool)=true
  rcases List.mem_cons.mp h with e | h
  ·rw [sB_iff,e,beq_self_eq_true]
  ·rw [ih h]; cases sB x y <;> rfl
theorem nodS_ok {l:List Str} (h:nodS l=true):l.Nodup:=by
 induction l with
 | nil=>exact List.nodup_nil
 | cons x l ih=>exact andE (fun h1 h2=>List.nodup_cons.mpr ⟨fun q=>tf ((anyS_of q).symm.trans (not1 h1)),ih h2⟩) h
noncomputable def argB (as:List Arg):List Str:=List.rec [] (fun x _ ih=>x.arg::ih) as
theorem argB_eq (as:List Arg):argB as=as.map (·.arg):=by
 induction as with
 | nil=>rfl
 | cons x as ih=>exact congrArg (x.arg::·) ih
noncomputable def noC (k:NameKind):Bool:=NameKind.casesOn k true false true true true
theorem noC_ne {k:NameKind} (h:noC k=true):k≠.cell:=fun e=>ft (by rw [e] at h; exact h)
noncomputable def noCellB (l:List (Str×NameKind)):Bool:=List.rec true (fun p _ ih=>noC p.2 && ih) l
theorem noCellB_ok {l:List (Str×NameKind)} (h:noCellB l=true):∀ x∈l,x.2≠.cell:=all_of (fun _=>noC_ne) h
noncomputable def locX (sc:Scope) (x:Str):Bool:=isLoc (slk x sc.names) && !sB x "__debug__"
noncomputable def locB (sc:Scope) (l:List Str):Bool:=List.rec true (fun x _ ih=>locX sc x && ih) l
theorem locB_ok {sc:Scope} {l:List Str} (h:locB sc l=true):∀ x∈l,sc.names.lookup x=some .local∧(x == ("__debug__":Str))=false:=
 all_of (fun x=>andE fun h1 h2=>⟨slk_eq x _▸isLoc_eq h1,sB_ne h2⟩) h
noncomputable def vNo (v:Value):Bool:=Value.casesOn v true false false (k1 false) (k2 false) (k2 false) (k2 false) (k2 false) (k1 false) (k1 false) (k1 false)
theorem vNo_eq {v:Value}:vNo v=true→v=.none:=by
 induction v using Value.casesOn <;> first | exact ft | exact fun _=>rfl
noncomputable def prmB (a:Arguments):Bool:=b3 a.posonlyargs.isEmpty (oN a.vararg) (b3 a.kwonlyargs.isEmpty a.kw_defaults.isEmpty (b3 (oN a.kwarg) a.defaults.isEmpty true))
theorem prmB_eq {a:Arguments} (h:prmB a=true):a=⟨[],a.args,none,[],[],none,[]⟩:=by
 obtain ⟨p,as,va,ko,kd,kw,df⟩:=a
 refine b3E (fun h1 h2=>b3E fun h3 h4=>b3E fun h5 h6 _=>?_) h
 show Arguments.mk p as va ko kd kw df=⟨[],as,none,[],[],none,[]⟩
 rw [lN_a (Q:=fun l=>l=[]) rfl p h1,oN_a (Q:=fun l=>l=none) rfl va h2,lN_a (Q:=fun l=>l=[]) rfl ko h3,lN_a (Q:=fun l=>l=[]) rfl kd h4,oN_a (Q:=fun l=>l=none) rfl kw h5,lN_a (Q:=fun l=>l=[]) rfl df h6]
noncomputable def fdB (K:Frag) (fd:FuncData):Bool:=b3 (prmB fd.params) (Nat.beq fd.globals mainGlobals) (b3 fd.closure.isEmpty (vNo fd.defaults) (b3 (Nat.beq fd.builtins builtinsNs) (codeIn K fd.code fd.qualname) true))
theorem fdB_eq {K:Frag} {fd:FuncData} {bd:List Stmt} (hb:fd.body=.stmts bd):fdB K fd=true→fd=fnOf fd.name fd.qualname ⟨[],fd.params.args,none,[],[],none,[]⟩ bd fd.scope .none fd.kwdefaults fd.doc fd.pyModule fd.annotations fd.code fd.closureTuple∧codeIn K fd.code fd.qualname=true:=
 b3E fun h1 h2=>b3E fun h3 h4=>b3E fun h5 h6 _=>⟨by
  rw [← prmB_eq h1]
  refine Eq.trans (show fd=⟨fd.name,fd.qualname,fd.params,fd.body,fd.scope,fd.globals,fd.closure,fd.defaults,fd.kwdefaults,fd.doc,fd.pyModule,fd.annotations,fd.code,fd.closureTuple,fd.builtins⟩ from rfl) ?_
  rw [hb,nB_eq h2,lN_a (Q:=fun l=>l=[]) rfl _ h3,vNo_eq h4,nB_eq h5],h6⟩
noncomputable def fnBody (nm gn:Nat→Str) (names:List Str) (fn:F) (fd:FuncData) (bd:List Stmt):Bool:=
 b3 (b3 (Nat.beq fd.params.args.length fn.np) (sLB (names.take fn.np) (argB fd.params.args)) (b3 (Nat.ble names.length fn.nl) (Nat.ble fn.np fn.nl) (nodS names)))
  (b3 (locB fd.scope names) (isFun fd.scope.kind) (b3 (!fd.scope.isCoroutine) (!fd.scope.isGenerator) (noCellB fd.scope.names)))
  ((mt ⟨nm,gn,names,fd.scope,[]⟩ fn.body).ss bd)
noncomputable def dF (k:FuncData→Bool) (d:Data):Bool:=Data.casesOn d false (k1 false) (k2 false) (k2 false) (k3 false) (k2 false) (k1 false) k (k1 false) (k1 false) false
theorem dF_a {Q:Data→Prop} {k:FuncData→Bool} (c:∀ f,k f=true→Q (.func f)):∀ d,dF k d=true→Q d:=by
 intro d; induction d using Data.casesOn <;> first | exact ft | exact c _
noncomputable def bS (k:List Stmt→Bool) (b:FuncBody):Bool:=FuncBody.casesOn b k (k1 false)
theorem bS_a {k:List Stmt→Bool} {G:Prop} {b:FuncBody} (c:∀ l,b=.stmts l→k l=true→G):bS k b=true→G:=by
 induction b using FuncBody.casesOn <;> first | exact ft | exact c _ rfl
noncomputable def fnG (K:Frag) (o:Option Obj) (k:FuncData→List Stmt→Bool):Bool:=oS (fun ob=>dF (fun fd=>fdB K fd && bS (k fd) fd.body) ob.data) o
theorem fnG_a {K:Frag} {o:Option Obj} {k:FuncData→List Stmt→Bool} {G:Prop} (h:fnG K o k=true)
  (c:∀ oc od osl fd bd,o=some ⟨oc,od,.func (fnOf fd.name fd.qualname ⟨[],fd.params.args,none,[],[],none,[]⟩ bd fd.scope .none fd.kwdefaults fd.doc fd.pyModule fd.annotations fd.code fd.closureTuple),osl⟩→codeIn K fd.code fd.qualname=true→k fd bd=true→G):G:=by
 induction o using Option.casesOn with
 | none=>exact ft h
 | some ob=>
  obtain ⟨oc,od,dt,osl⟩:=ob
  exact dF_a (Q:=fun dt=>(some ⟨oc,od,dt,osl⟩:Option Obj)=some ⟨oc,od,dt,osl⟩→(∀ oc' od' osl' fd bd,(some ⟨oc,od,dt,osl⟩:Option Obj)=some ⟨oc',od',.func (fnOf fd.name fd.qualname ⟨[],fd.params.args,none,[],[],none,[]⟩ bd fd.scope .none fd.kwdefaults fd.doc fd.pyModule fd.annotations fd.code fd.closureTuple),osl'⟩→codeIn K fd.code fd.qualname=true→k fd bd=true→G)→G)
   (fun fd=>andE fun h1=>bS_a fun bd hb h2 _ c=>c oc od osl fd bd (congrArg (fun f=>(some ⟨oc,od,.func f,osl⟩:Option Obj)) (fdB_eq hb h1).1) (fdB_eq hb h1).2 h2) dt h rfl c
noncomputable def fnB (K:Frag) (nm gn:Nat→Str) (o:Option Obj) (fn:F) (names:List Str):Bool:=fnG K o fun fd bd=>fnBody nm gn names fn fd bd
theorem fnB_ok {gn:Nat→Str} {a:Addr} {fn:F} {names:List Str} (h:fnB P.K P.nm gn (P.K.lookup a) fn names=true):FnOk P (fun names cs b sts=>(mt ⟨P.nm,gn,names,cs,[]⟩ b).ss sts=true) a fn:=
 fnG_a h fun oc od osl fd bd hk hc=>b3E fun b1 b2 m=>b3E (fun c1 c2 c3=>b3E (fun c4 c5 c6=>b3E (fun d1 d2 d3=>b3E (fun d4 d5 d6=>
  ⟨oc,od,osl,fd.name,fd.qualname,fd.params.args,bd,fd.scope,fd.kwdefaults,fd.doc,fd.pyModule,fd.annotations,fd.code,fd.closureTuple,names,hk,hc,nB_eq c1,argB_eq _▸sLB_eq _ c2,Nat.le_of_ble_eq_true c4,Nat.le_of_ble_eq_true c5,nodS_ok c6,fun x hx=>(locB_ok d1 x hx).1,fun x hx=>(locB_ok d1 x hx).2,not1 d4,not1 d5,isFun_eq d2,noCellB_ok d6,m⟩) d3) b2) c3) b1
noncomputable def locY (sc:Scope) (x0 x:Str):Bool:=(sB x x0 || isLoc (slk x sc.names)) && !sB x "__debug__"
noncomputable def locC (sc:Scope) (x0:Str) (l:List Str):Bool:=List.rec true (fun x _ ih=>locY sc x0 x && ih) l
theorem locC_ok {sc:Scope} {x0:Str} {l:List Str} (h:locC sc x0 l=true):∀ x∈l,(x≠x0→sc.names.lookup x=some .local)∧(x == ("__debug__":Str))=false:=
 all_of (fun x=>andE fun h1 h2=>⟨fun n=>orE (fun e=>absurd (sB_eq e) n) (fun e=>slk_eq x _▸isLoc_eq e) h1,sB_ne h2⟩) h
noncomputable def oneC (x:Str) (l:List (Str×NameKind)):Bool:=List.rec false (fun p t ih=>NameKind.casesOn p.2 ih (sB p.1 x && noCellB t) ih ih ih) l
theorem cells_none {l:List (Str×NameKind)} (h:noCellB l=true) (n:Nat) (acc:List (Str×Addr)):cellsFrom n l acc=acc:=by
 induction l generalizing n acc with
 | nil=>rfl
 | cons p l ih=>
  obtain ⟨y,k⟩:=p
  unfold cellsFrom
  rw [beq_eq_false_iff_ne.mpr (noC_ne (and2 h).1)]
  exact ih (and2 h).2 _ _
theorem oneC_ok {x:Str} {l:List (Str×NameKind)} (h:oneC x l=true) (n:Nat):cellsFrom n l []=[(x,n)]:=by
 induction l generalizing n with
 | nil=>exact ft h
 | cons p l ih=>
  obtain ⟨y,k⟩:=p
  unfold cellsFrom
  induction k using NameKind.casesOn with
  | cell=>
   have h:(sB y x && noCellB l)=true:=h
   rw [sB_eq (and2 h).1]; exact cells_none (and2 h).2 _ _
  | _=>exact ih h n
noncomputable def isCell (o:Option NameKind):Bool:=Option.casesOn o false fun k=>NameKind.casesOn k false true false false false
theorem isCell_eq {o:Option NameKind}:isCell o=true→o=some .cell:=by
 induction o using Option.casesOn with
 | none=>exact ft
 | some k=>induction k using NameKind.casesOn <;> first | exact ft | exact fun _=>rfl
noncomputable def xC (k:X→X→Bool) (x:X):Bool:=X.casesOn (motive:=fun _=>Bool) x false (k1 false) (k1 false) (k1 false) (k1 false) (k1 false) (k2 false) (k3 false) (k1 false) (k1 false) (k1 false) (k1 false) (k1 false) (k2 false) (k1 false) (k2 false) (k3 false) (k5 false) (k3 false) (k1 false) (k1 false) (k2 false) (k2 false) (k4 false) (k2 false) (k3 false) (k4 false) false (k2 false) (k1 false) (k2 false) (k2 false) (k1 false) (k2 false) (k3 false) (k1 false) (k1 false) (k3 false) (k3 false) false false false k
theorem xC_a {k:X→X→Bool} {G:Prop} {x:X} (c:∀ s r,x=.scons s r→k s r=true→G):xC k x=true→G:=by
 induction x using X.casesOn <;> first | exact ft | exact c _ _ rfl
noncomputable def xA (k:X→X→Bool) (x:X):Bool:=X.casesOn (motive:=fun _=>Bool) x false (k1 false) (k1 false) (k1 false) (k1 false) (k1 false) (k2 false) (k3 false) (k1 false) (k1 false) (k1 false) (k1 false) (k1 false) (k2 false) (k1 false) (k2 false) (k3 false) (k5 false) (k3 false) (k1 false) (k1 false) (k2 false) (k2 false) (k4 false) (k2 false) (k3 false) (k4 false) false (k2 false) (k1 false) (k2 false) (k2 false) (k1 false) k (k3 false) (k1 false) (k1 false) (k3 false) (k3 false) false false false (k2 false)
theorem xA_a {k:X→X→Bool} {G:Prop} {x:X} (c:∀ s r,x=.asgn s r→k s r=true→G):xA k x=true→G:=by
 induction x using X.casesOn <;> first | exact ft | exact c _ _ rfl
noncomputable def xT (k:Nat→Bool) (x:X):Bool:=X.casesOn (motive:=fun _=>Bool) x false (k1 false) (k1 false) (k1 false) (k1 false) (k1 false) (k2 false) (k3 false) (k1 false) (k1 false) (k1 false) (k1 false) (k1 false) (k2 false) (k1 false) (k2 false) (k3 false) (k5 false) (k3 false) (k1 false) (k1 false) (k2 false) (k2 false) (k4 false) (k2 false) (k3 false) (k4 false) false (k2 false) k (k2 false) (k2 false) (k1 false) (k2 false) (k3 false) (k1 false) (k1 false) (k3 false) (k3 false) false false false (k2 false)
theorem xT_a {k:Nat→Bool} {G:Prop} {x:X} (c:∀ i,x=.tname i→k i=true→G):xT k x=true→G:=by
 induction x using X.casesOn <;> first | exact ft | exact c _ rfl
noncomputable def xHd (k:Nat→X→X→Bool) (x:X):Bool:=xC (fun s r=>xA (fun t e=>xT (fun i=>k i e r) t) s) x
theorem xHd_a {k:Nat→X→X→Bool} {G:Prop} {x:X} (c:∀ i e r,x=.scons (.asgn (.tname i) e) r→k i e r=true→G):xHd k x=true→G:=
 xC_a fun s r h1=>xA_a fun t e h2=>xT_a fun i h3 h=>c i e r (by rw [h1,h2,h3]) h
noncomputable def fnBodyC (nm gn:Nat→Str) (names:List Str) (fn:F) (fd:FuncData) (bd:List Stmt):Bool:=lC (fun st rest=>sA (fun ts ea _=>l1 (fun t=>eN (fun x px=>xHd (fun ix e r=>
  b3 (b3 (b3 (Nat.beq fd.params.args.length fn.np) (sLB (names.take fn.np) (argB fd.params.args)) (b3 (Nat.ble names.length fn.nl) (Nat.ble fn.np fn.nl) (nodS names)))
    (b3 (locC fd.scope x names) (isFun fd.scope.kind) (b3 (!fd.scope.isCoroutine) (!fd.scope.isGenerator) (oneC x fd.scope.names)))
    (b3 (isCell (slk x fd.scope.names)) (!anyS x (argB fd.params.args)) (nmAt names ix x)))
   (b3 (noComp ea) (noSwap (.Name x px) ea) true)
   (b3 ((mt ⟨nm,gn,names,fd.scope,[x]⟩ e).e ea) ((mt ⟨nm,gn,names,fd.scope,[x]⟩ r).ss rest) true)) fn.body) t) ts) st) bd
noncomputable def fnCB (K:Frag) (nm gn:Nat→Str) (o:Option Obj) (fn:F) (names:List Str):Bool:=fnG K o fun fd bd=>fnBodyC nm gn names fn fd bd
theorem fnCB_ok {gn:Nat→Str} {a:Addr} {fn:F} {names:List Str} (h:fnCB P.K P.nm gn (P.K.lookup a) fn names=true):FnOkC P P.nm gn a fn:=by
 refine fnG_a h fun oc od osl fd bd hk hc h2=>?_
 refine lC_a (Q:=fun bd=>P.K.lookup a=some ⟨oc,od,.func (fnOf fd.name fd.qualname ⟨[],fd.params.args,none,[],[],none,[]⟩ bd fd.scope .none fd.kwdefaults fd.doc fd.pyModule fd.annotations fd.code fd.closureTuple),osl⟩→FnOkC P P.nm gn a fn) (fun st rest=>?_) bd h2 hk
 refine sA_a (Q:=fun st=>P.K.lookup a=some ⟨oc,od,.func (fnOf fd.name fd.qualname ⟨[],fd.params.args,none,[],[],none,[]⟩ (st::rest) fd.scope .none fd.kwdefaults fd.doc fd.pyModule fd.annotations fd.code fd.closureTuple),osl⟩→FnOkC P P.nm gn a fn) (fun ts ea pos=>?_) st
 refine l1_a (Q:=fun ts=>P.K.lookup a=some ⟨oc,od,.func (fnOf fd.name fd.qualname ⟨[],fd.params.args,none,[],[],none,[]⟩ (.Assign ts ea pos::rest) fd.scope .none fd.kwdefaults fd.doc fd.pyModule fd.annotations fd.code fd.closureTuple),osl⟩→FnOkC P P.nm gn a fn) (fun t=>?_) ts
 refine eN_a (Q:=fun t=>P.K.lookup a=some ⟨oc,od,.func (fnOf fd.name fd.qualname ⟨[],fd.params.args,none,[],[],none,[]⟩ (.Assign [t] ea pos::rest) fd.scope .none fd.kwdefaults fd.doc fd.pyModule fd.annotations fd.code fd.closureTuple),osl⟩→FnOkC P P.nm gn a fn) (fun x px h2 hk=>?_) t
 exact xHd_a (fun ix xe xr hbody=>b3E fun b1 b2 b3'=>b3E (fun a1 a2 a3=>b3E (fun c1 c2 c3=>b3E (fun c4 c5 c6=>b3E (fun d1 d2 d3=>b3E (fun d4 d5 d6=>b3E (fun f1 f2 f3=>b3E (fun g1 g2 _=>b3E (fun m1 m2 _=>
  ⟨oc,od,osl,fd.name,fd.qualname,fd.params.args,_,fd.scope,fd.kwdefaults,fd.doc,fd.pyModule,fd.annotations,fd.code,fd.closureTuple,names,x,px,ea,pos,rest,ix,xe,xr,hk,hc,nB_eq c1,argB_eq _▸sLB_eq _ c2,Nat.le_of_ble_eq_true c4,Nat.le_of_ble_eq_true c5,nodS_ok c6,fun y hy=>(locC_ok d1 y hy).1,fun y hy=>(locC_ok d1 y hy).2,not1 d4,not1 d5,isFun_eq d2,oneC_ok d6,slk_eq x _▸isCell_eq f1,fun q=>tf ((anyS_of (argB_eq _▸q)).symm.trans (not1 f2)),nmAt_eq f3,rfl,hbody,g1,g2,m1,m2⟩) b3') b2) a3) d3) a2) c3) a1) b1) h2
end
end Mine
namespace Mine
noncomputable section
variable {P:Pm}
theorem cw_bi {id:String}:CW P (.builtin id):=by
 intro A env pos es s Q E X hs k
 refine cw_b (first:=[]) hs ?_
 exact wpAny_mono k (fun vs s₁ z=>z.2) fun _ _ z=>z
theorem cw_ty {T:String}:CW P (.type T):=by
 intro A env pos es s Q E X hs k
 induction es using List.casesOn with
 | nil=>
  refine callWith_type0 ?_
  have k:wpAny (Cx.M P) A (pure []) (fun vs s₁=>P.K.In s₁.heap∧wpAny (Cx.M P) A (call (.type T) vs) Q E s₁) E s:=k
  intro Γ p hΓ
  exact (k Γ p hΓ).2 Γ p hΓ
 | cons e es=>
  obtain ⟨h1,h2⟩:=hs e es rfl
  exact PyProof.Rows.callWith_type1 (wpAny_mono k (fun vs s₁ z=>z.2) fun _ _ z=>z) h1 h2
noncomputable def biV (k:Nat):Value:=match k with | 0=>.builtin "len" | 1=>.type "range" | 2=>.builtin "sorted" | 3=>.type "tuple" | _=>.type "str"
noncomputable def biX (k:Nat):Str:=match k with | 0=>"len" | 1=>"range" | 2=>"sorted" | 3=>"tuple" | _=>"str"
theorem bi_boot (k:Nat):bootBuiltins (biX k)=some (biV k):=by
 match k with
 | 0=>kernel_rfl
 | 1=>kernel_rfl
 | 2=>kernel_rfl
 | 3=>kernel_rfl
 | _ + 4=>kernel_rfl
theorem bi_name (k:Nat):biX k≠"__name__":=by
 match k with
 | 0=>decide
 | 1=>decide
 | 2=>decide
 | 3=>decide
 | _ + 4=>exact (by decide:("str":Str)≠"__name__")
noncomputable def gvOf (K:Frag) (ca fa:Nat→Addr) (q:G) (x:Str):Value:=match q with
 | .bi k=>biV k
 | .cls c=>.ref (ca c)
 | .fn f=>.ref (fa f)
 | _=>(match nsIn K mainGlobals x with | some (some v)=>v | _=>.none)
noncomputable def vB (nm:Nat→Str) (y:Value) (v:V):Bool:=match v with
 | .none=>vNo y
 | .int i=>(match y with | .int j _=>iB i j | _=>false)
 | .str k=>(match y with | .str x _=>sB x (nm k) | _=>false)
 | .bad=>true
 | _=>false
theorem vB_ok {y:Value} {v:V} (h:vB P.nm y v=true) (W:Wd) (n:Nat):RV P W n v y:=by
 unfold vB at h
 split at h
 ·simp only [RV]; exact vNo_eq h
 ·split at h
  ·simp only [RV]; exact ⟨_,by rw [iB_t h]⟩
  ·exact bX h
 ·split at h
  ·simp only [RV]; exact ⟨_,by rw [sB_eq h]⟩
  ·exact bX h
 ·simp only [RV]
 ·exact bX h
noncomputable def rowK (k:V) (c:KD) (key:Value):Bool:=match k with | .int i=>(match c with | .int j=>(match key with | .int k _=>b3 (iB i j) (iB i k) true | _=>false) | _=>false) | _=>false
noncomputable def rowV (v:V) (val:Value):Bool:=match v with | .int i=>(match val with | .int k _=>iB i k | _=>false) | _=>false
noncomputable def rowsB (l:List (V×V)):List Row3→Bool:=List.rec (motive:=fun _=>List Row3→Bool) (fun b=>match b with | []=>true | _=>false) (fun p _ ih b=>match b with
 | []=>false
 | q::t=>b3 (rowK p.1 q.1 q.2.1) (rowV p.2 q.2.2) (ih t)) l
theorem rowV_i {v:V} {val:Value} (h:rowV v val=true):∃ i t,v=.int i∧val=.int i t:=by
 unfold rowV at h
 split at h
 ·split at h
  ·rw [iB_t h]; exact ⟨_,_,rfl,rfl⟩
  ·exact bX h
 ·exact bX h
theorem rowK_i {k:V} {c:KD} {key:Value} (h:rowK k c key=true):∃ i t,k=.int i∧c=.int i∧key=.int i t:=by
 unfold rowK at h
 split at h
 ·split at h
  ·split at h
   ·obtain ⟨a,b,_⟩:=b3_t h
    have a:=iB_t a
    have b:=iB_t b
    subst a b
    exact ⟨_,_,rfl,rfl,rfl⟩
   ·exact bX h
  ·exact bX h
 ·exact bX h
theorem rowsB_ok {W:Wd} {n:Nat}:∀ {l:List (V×V)} {xs:List Row3},rowsB l xs=true→RD P W n l xs∧∀ k∈xs.map (·.1),k.isI=true
 | [],[],_=>⟨.nil,nofun⟩
 | [],_::_,h=>by exact bX h
 | _::_,[],h=>by exact bX h
 | (k,v)::l,(c,key,val)::xs,h=>by
  refine pL fun G0 hG0=>?_
  obtain ⟨h1,h2,h3⟩:=b3_t (show b3 (rowK k c key) (rowV v val) (rowsB l xs)=true from h)
  obtain ⟨r1,r2⟩:=rowsB_ok h3
  obtain ⟨i,t,rfl,rfl,rfl⟩:=rowK_i h1
  obtain ⟨j,u,rfl,rfl⟩:=rowV_i h2
  refine hG0 ?_
  refine ⟨.cons rfl (by simp only [RV]; exact ⟨_,rfl⟩) (by simp only [RV]; exact ⟨_,rfl⟩) r1,fun q hq=>?_⟩
  rcases List.mem_cons.mp hq with rfl | hq
  ·rfl
  ·exact r2 q hq
noncomputable def kdZ (k:KD):Int:=match k with | .int i=>i | _=>0
noncomputable def memI (i:Int) (l:List Row3):Bool:=List.rec false (fun x _ ih=>Bool.rec ih true (iB (kdZ x.1) i)) l
noncomputable def nodI (l:List Row3):Bool:=List.rec true (fun x t ih=>b3 (Bool.rec true false (memI (kdZ x.1) t)) ih true) l
theorem memI_of {i:Int}:∀ {l:List Row3},KD.int i∈l.map (·.1)→memI i l=true
 | x::l,h=>by
  show (Bool.rec (memI i l) true (iB (kdZ x.1) i):Bool)=true
  rcases List.mem_cons.mp (show KD.int i∈x.1::l.map (·.1) from h) with e | h
  ·rw [← e]
   show (Bool.rec (memI i l) true (iB i i):Bool)=true
   rw [iB_refl]
  ·cases iB (kdZ x.1) i with
   | true=>rfl
   | false=>exact memI_of h
theorem nodI_ok:∀ {l:List Row3},nodI l=true→(∀ k∈l.map (·.1),k.isI=true)→(l.map (·.1)).Nodup
 | [],_,_=>List.nodup_nil
 | x::l,h,hi=>by
  obtain ⟨h1,h2,_⟩:=b3_t (show b3 (Bool.rec true false (memI (kdZ x.1) l)) (nodI l) true=true from h)
  refine List.nodup_cons.mpr ⟨fun q=>?_,nodI_ok h2 fun k hk=>hi k (.tail _ hk)⟩
  have hx:=hi x.1 (.head _)
  have q:x.1∈l.map (·.1):=q
  cases w:x.1 with
  | int i=>
   rw [w] at q h1
   have h1:(Bool.rec true false (memI i l):Bool)=true:=h1
   rw [memI_of q] at h1
   exact bX h1
  | _=>rw [w] at hx; exact bX hx
noncomputable def tabB (es:List (V×V)) (xs:List Row3):Bool:=b3 (rowsB es xs) (nodI xs) (Nat.ble xs.length 1000)
theorem tabB_ok {es:List (V×V)} {xs:List Row3} (h:tabB es xs=true) (W:Wd) (n:Nat):DOk P W n es xs:=by
 obtain ⟨h1,h2,h3⟩:=b3_t h
 obtain ⟨r1,r2⟩:=rowsB_ok (P:=P) (W:=W) (n:=n) h1
 refine ⟨r1,nodI_ok h2 r2,.inl r2,Nat.le_of_ble_eq_true h3,fun k hk=>?_⟩
 have:=r2 k hk
 cases k with
 | int i=>exact ⟨Nat.zero_le _,rfl⟩
 | _=>exact bX this
noncomputable def rowsOf (o:Option Obj):List Row3:=match o with
 | some ⟨_,_,.dict es _,_⟩=>es.toList.map fun e=>(match e.key with | .int i _=>KD.int i | _=>.tn,e.key,e.val)
 | _=>[]
noncomputable def isRef (o:Option (Option Value)) (a:Addr):Bool:=match o with | some (some (.ref b))=>Nat.beq b a | _=>false
theorem isRef_eq {o:Option (Option Value)} {a:Addr} (h:isRef o a=true):o=some (some (.ref a)):=by
 unfold isRef at h; split at h
 ·rw [beq_t h]
 ·exact bX h
noncomputable def isAbs (o:Option (Option Value)):Bool:=match o with | some none=>true | _=>false
theorem isAbs_eq {o:Option (Option Value)} (h:isAbs o=true):o=some none:=by
 unfold isAbs at h; split at h
 ·rfl
 ·exact bX h
noncomputable def gB (K:Frag) (nm:Nat→Str) (ca fa:Nat→Addr) (q:G) (x:Str):Bool:=match q with
 | .bi k=>b3 (isAbs (nsIn K mainGlobals x)) (sB x (biX k)) (Nat.blt k 5)
 | .cls c=>b3 (isRef (nsIn K mainGlobals x) (ca c)) (keepIn K (.ref (ca c))) true
 | .fn f=>b3 (isRef (nsIn K mainGlobals x) (fa f)) (keepIn K (.ref (fa f))) true
 | .val v=>(match nsIn K mainGlobals x with | some (some y)=>vB nm y v | _=>false)
 | .tab es=>(match nsIn K mainGlobals x with | some (some (.ref b))=>b3 (tabB es (rowsOf (K.lookup b))) (Nat.blt sysModules b) true | _=>false)
noncomputable def gAll (f:G→Str→Bool) (l:List G):List Str→Bool:=List.rec (motive:=fun _=>List Str→Bool) (fun _=>true) (fun q _ ih b=>match b with | []=>false | x::t=>b3 (f q x) (ih t) true) l
theorem gAll_get {f:G→Str→Bool}:∀ {l:List G} {ns:List Str},gAll f l ns=true→∀ (g:Nat) (q:G),l[g]?=some q→∃ x,ns[g]?=some x∧f q x=true
 | [],_,_,g,q,e=>by exact oX e
 | _::_,[],h,_,_,_=>by exact bX h
 | q0::l,x::ns,h,g,q,e=>by
  obtain ⟨h1,h2,_⟩:=b3_t (show b3 (f q0 x) (gAll f l ns) true=true from h)
  induction g using Nat.casesOn with
  | zero=>(obtain rfl:=Option.some.inj e); exact ⟨x,rfl,h1⟩
  | succ g=>exact gAll_get h2 g q e
theorem glb_get {g:Nat} {q:G} (h:glbT.get g=some q) (hl:glbL.length < 16000000):glbL[g]?=some q:=by
 rw [← ofL_get glbL g hl]; exact h
theorem glb_ok {gns:List Str} {gn:Nat→Str} (hgn:∀ (g:Nat) (x:Str),gns[g]?=some x→gn g=x) (hlen:glbL.length < 1000) (h:gAll (gB P.K P.nm P.ca P.fa) glbL gns=true) (hgv:∀ g q,glbT.get g=some q→P.gv g=gvOf P.K P.ca P.fa q (gn g))
  (htab:∀ g es b,glbT.get g=some (.tab es)→nsIn P.K mainGlobals (gn g)=some (some (.ref b))→∃ ep,P.K.lookup b=some (dictOf ((rowsOf (P.K.lookup b)).map (ent P)) ep)) :
  GOk P P.K∧(∀ g q,glbT.get g=some q→GName P g (gn g))∧∀ g,calB g=true→CW P (P.gv g):=by
 have key:∀ g q,glbT.get g=some q→gB P.K P.nm P.ca P.fa q (gn g)=true:=fun g q e=>by
  obtain ⟨x,a,b⟩:=gAll_get h g q (glb_get e (by lia))
  rw [hgn g x a]; exact b
 refine ⟨fun g q e=>?_,fun g q e=>?_,fun g e=>?_⟩
 ·have k:=key g q e
  rw [hgv g q e]
  cases q with
  | bi i=>
   obtain ⟨_,_,h3⟩:=b3_t k
   have:=blt_t h3
   match i with
   | 0=>rfl
   | 1=>rfl
   | 2=>rfl
   | 3=>rfl
   | 4=>rfl
   | i + 5=>lia
  | cls c=>rfl
  | fn f=>rfl
  | val v=>
   intro W n
   have k:(match nsIn P.K mainGlobals (gn g) with | some (some y)=>vB P.nm y v | _=>false)=true:=k
   show RV P W n v (match nsIn P.K mainGlobals (gn g) with | some (some v)=>v | _=>.none)
   induction w:nsIn P.K mainGlobals (gn g) using Option.casesOn with
   | none=>rw [w] at k; exact bX k
   | some o=>
    induction o using Option.casesOn with
    | none=>rw [w] at k; exact bX k
    | some y=>rw [w] at k; exact vB_ok k W n
  | tab es=>
   have k:(match nsIn P.K mainGlobals (gn g) with | some (some (.ref b))=>b3 (tabB es (rowsOf (P.K.lookup b))) (Nat.blt sysModules b) true | _=>false)=true:=k
   induction w:nsIn P.K mainGlobals (gn g) using Option.casesOn with
   | none=>rw [w] at k; exact bX k
   | some o=>
    rw [w] at k
    induction o using Option.casesOn with
    | none=>exact bX k
    | some y=>
     cases y with
     | ref b=>
      refine pL fun G0 hG0=>?_
      obtain ⟨k1,k2,_⟩:=b3_t k
      obtain ⟨ep,hk⟩:=htab g es b e w
      refine hG0 ?_
      refine ⟨b,rowsOf (P.K.lookup b),ep,?_,hk,blt_t k2,fun W n=>tabB_ok k1 W n⟩
      show (match nsIn P.K mainGlobals (gn g) with | some (some v)=>v | _=>.none)=_
      rw [w]
     | _=>exact bX k
 ·have k:=key g q e
  unfold GName
  rw [hgv g q e]
  cases q with
  | bi i=>
   obtain ⟨h1,h2,_⟩:=b3_t k
   exact .inr ⟨isAbs_eq h1,by rw [sB_eq h2]; exact bi_boot i,by rw [sB_eq h2]; exact bi_name i⟩
  | cls c=>obtain ⟨h1,_,_⟩:=b3_t k; exact .inl (isRef_eq h1)
  | fn f=>obtain ⟨h1,_,_⟩:=b3_t k; exact .inl (isRef_eq h1)
  | val v=>
   have k:(match nsIn P.K mainGlobals (gn g) with | some (some y)=>vB P.nm y v | _=>false)=true:=k
   refine .inl ?_
   show nsIn P.K mainGlobals (gn g)=some (some (match nsIn P.K mainGlobals (gn g) with | some (some v)=>v | _=>.none))
   induction w:nsIn P.K mainGlobals (gn g) using Option.casesOn with
   | none=>rw [w] at k; exact bX k
   | some o=>
    induction o using Option.casesOn with
    | none=>rw [w] at k; exact bX k
    | some y=>rfl
  | tab es=>
   have k:(match nsIn P.K mainGlobals (gn g) with | some (some (.ref b))=>b3 (tabB es (rowsOf (P.K.lookup b))) (Nat.blt sysModules b) true | _=>false)=true:=k
   refine .inl ?_
   show nsIn P.K mainGlobals (gn g)=some (some (match nsIn P.K mainGlobals (gn g) with | some (some v)=>v | _=>.none))
   induction w:nsIn P.K mainGlobals (gn g) using Option.casesOn with
   | none=>rw [w] at k; exact bX k
   | some o=>
    induction o using Option.casesOn with
    | none=>rw [w] at k; exact bX k
    | some y=>rfl
 ·unfold calB at e
  induction w:glbT.get g using Option.casesOn with
  | none=>rw [w] at e; exact bX e
  | some q=>
   rw [w] at e
   have k:=key g q w
   rw [hgv g q w]
   cases q with
   | bi i=>
    match i with
    | 0=>exact cw_bi
    | 1=>exact cw_ty
    | 2=>exact cw_bi
    | 3=>exact cw_ty
    | _ + 4=>exact cw_ty
   | cls c=>obtain ⟨_,h2,_⟩:=b3_t k; exact cw_keep h2
   | fn f=>obtain ⟨_,h2,_⟩:=b3_t k; exact cw_keep h2
   | val v=>exact bX e
   | tab es=>exact bX e
noncomputable def clsB (K:Frag) (nm:Nat→Str) (fa:Nat→Addr) (C:Addr) (ms:List (Nat×Nat)):Bool:=
 b3 (b3 (findIn K (.ref C) "__setattr__" == some (some (.builtin "object.__setattr__"))) (plainOver K C) (hasDictIn K C))
  (b3 (plainGet K C "") (allB (fun k=>Bool.rec true (b3 (isAbs (takerIn K C (nm k))) (isAbs (findIn K (.ref C) (nm k))) true) (attrOk k ms)) (idxs nN)) (allB (fun p=>b3 (isRef (findIn K (.ref C) (nm p.1)) (fa p.2)) (isFn K (.ref (fa p.2))) (keepIn K (.ref (fa p.2)))) ms))
  (b3 (makesIn K C) (match assoc n_init ms with | some f=>b3 (isRef (findIn K (.ref C) "__init__") (fa f)) (typeIn K (.ref (fa f)) == some (.type "function")) true | none=>true) (keepIn K (.ref C)))
theorem assoc_mem {α:Type} {k:Nat} {v:α}:∀ {l:List (Nat×α)},assoc k l=some v→(k,v)∈l
 | p::l,h=>by
  have h:(Bool.rec (motive:=fun _=>Option α) (assoc k l) (some p.2) (Nat.beq p.1 k))=some v:=h
  induction q:Nat.beq p.1 k using Bool.casesOn with
  | true=>rw [q] at h; (obtain rfl:=Option.some.inj h); rw [← beq_t q]; exact .head _
  | false=>rw [q] at h; exact .tail _ (assoc_mem h)
theorem clsB_ok {c:Nat} {ms:List (Nat×Nat)} (h:clsB P.K P.nm P.fa (P.ca c) ms=true):ClsOk P c ms:=by
 refine pL fun G0 hG0=>?_
 obtain ⟨h1,h2,h3⟩:=b3_t h
 obtain ⟨a1,a2,a3⟩:=b3_t h1
 obtain ⟨b1,b2,b3'⟩:=b3_t h2
 obtain ⟨c1,c2,c3⟩:=b3_t h3
 refine hG0 ?_
 refine ⟨eq_of_beq a1,a2,a3,fun x=>b1,fun k hk=>?_,fun k f hf=>?_,c1,fun f hf=>?_,c3⟩
 ·have hlt:k < nN:=blt_t (b3_t hk).1
  have z:=allB_mem b2 k (mem_idxs hlt)
  rw [hk] at z
  obtain ⟨z1,z2,_⟩:=b3_t z
  exact ⟨isAbs_eq z1,isAbs_eq z2⟩
 ·obtain ⟨z1,z2,z3⟩:=b3_t (allB_mem b3' _ (assoc_mem hf))
  exact ⟨isRef_eq z1,z2,z3⟩
 ·rw [hf] at c2
  obtain ⟨z1,z2,_⟩:=b3_t c2
  exact ⟨isRef_eq z1,eq_of_beq z2⟩
end
end Mine
namespace Mine
noncomputable section
variable {P P':Pm} {C:Cx} {W W' W'':Wd} {n n' m κ d:Nat} {r r':Nat→Nat} {h h' h'':Hp} {env:List V} {s:Shared} {io raw:Nat→Int} {ge:Nat→Value} {gn:Nat→Str}
theorem alt_gv {g:Nat} (h:¬ g < 1000):(P.alt io raw ge).gv g=ge g:=if_neg h
noncomputable def enterG (Fb:List V→Hp→R) (as:List V) (h:Hp) (fn:F):R:=match Nat.beq as.length fn.np with
 | true=>fin (Fb (as ++ padN (Nat.sub fn.nl fn.np)) h)
 | false=>.no
theorem enter_gen {mm:List Str→Scope→X→List Stmt→Prop} {Fb:List V→Hp→R} {fn:F} (body:∀ (C:Cx),C.Ok P d→C.cl=[]→∀ (names:List Str) (sts:List Stmt),C.names=names→mm names C.cs fn.body sts→SndSs P C Fb sts)
  (ok:C.Ok P (d + 1)) {a:Addr} (fo:FnOk P mm a fn) {args:List V} {vs:List Value} {v:V} {Q:Value→Shared→Prop} {E:Value→Shared→Prop} (S:St P C W h env s) (ra:RVs P W h.n args vs) (e:enterG Fb args h fn=.v v h') (g:Go P C W h env h' v Q) :
  codeAny (Cx.M P) C.A (.call (.ref a) ⟨vs,[]⟩) (Ret Q E) s:=by
 refine pL fun G0 hG0=>?_
 obtain ⟨oc,od,osl,name,qual,as,bd,scope,kV,doc,pm,an,cdv,ct,names,hK,hcd,hnp,htk,hnl,hle,hnd,hloc,hdbg,hco,hgen,hkind,hcell,hmm⟩:=fo
 refine hG0 ?_
 have hl:args.length=fn.np:=by
  unfold enterG at e
  split at e
  ·rename_i q; rw [beqD,decide_eq_true_iff] at q; exact q
  ·exact rX e
 have e':fin (Fb (args ++ padN (Nat.sub fn.nl fn.np)) h)=.v v h':=by
  unfold enterG at e
  rw [beqD,decide_eq_true hl] at e
  exact e
 have hlv:=ra.len
 obtain ⟨m,F,Em⟩:=S.fr
 have X:=in_keeps ok.x F.keep
 have hlas:as.length=vs.length:=by lia
 have hnd':(as.map (·.arg)).Nodup:=by rw [← htk]; exact hnd.sublist (List.take_sublist _ _)
 refine callX_plain (cl:=[]) (binds:=(as.map (·.arg)).zip vs) ok.below F S.nw ok.t.nolimit ok.frames rfl ok.kind (X _ _ hK) rfl (codeRec_of X hcd) (by have:=ok.depth; show C.A.depth < 1000; lia) (BindsTo.of_eq (bind_simple rfl rfl hlas hnd')) ?_ ?_ hcell hco hgen hkind
 ·intro y hy
  have:y.1∈as.map (·.arg):=by
   have:=List.of_mem_zip (show (y.1,y.2)∈_ from hy)
   exact this.1
  rw [← htk] at this
  exact hloc _ (List.mem_of_mem_take this)
 ·intro g' L' h₁ Fg F' N' B' stay _
  let C':Cx:={ loose:=C.loose,mg:=C.mg,mb:=C.mb,base:=C.base,h₀:=g',outer:=C.env::C.outer,A₀:=C.A,A:=C.A.deeper (envOf qual scope L' a cdv),L:=L',a:=a,cn:=qual,cs:=scope,ccd:=cdv,names:=names,cl:=[],gens:=C.gens,os:=C.os }
  have ok':C'.Ok P d:=by
   refine ⟨ok.pok,B',Around.frames_deeper ok.frames,in_keeps ok.x stay,ok.t.keeps stay,?_,?_,ok.handled,hkind,hnd,fun x hx _=>hloc x hx,fun x c e=>(nomatch e),hdbg⟩
   ·have:=ok.depth; show C.A.depth + 1 + 3 * d≤900; lia
   ·have:=ok.units; show C.A.units + 3 + 8 * d≤9000; lia
  have S':St P C' W h (args ++ padN (Nat.sub fn.nl fn.np)) { s with heap:=h₁,toks:=s.toks + ((as.map (·.arg)).zip vs).length }:=by
   refine ⟨S.rel,⟨_,F',fun i x v h1 h2 h3=>?_⟩,N',S.gens,S.os⟩
   have h1:names[i]?=some x:=h1
   by_cases q:i < args.length
   ·rw [List.getElem?_append_left q] at h2
    obtain ⟨y,y1,y2⟩:=ra.get h2
    refine ⟨y,.inl ⟨rfl,lookup_rev _ vs hnd' (by simp [hlas]) i x y ?_ y1⟩,y2⟩
    rw [← htk,List.getElem?_take,if_pos (by lia)]; exact h1
   ·rw [List.getElem?_append_right (by lia)] at h2
    exact absurd (padN_get _ _ _ h2) h3
  refine wpAny_mono (body C' ok' rfl names bd rfl hmm W h _ _ (fun fl s'=>LeaveK C.h₀ C.L m g' (Ret Q E) (match fl with | .ret v=>v | _=>.none) s') (fun _ _=>False) S' ?_) (fun fl s' z=>?_) (fun _ _ z=>z.elim)
  ·have leave:∀ (W':Wd) (h'':Hp) (s':Shared) (env':List V) (w:V) (y:Value),R.v w h''=.v v h'→Ext W W' h h''→St P C' W' h'' env' s'→RV P W' h''.n w y→
     LeaveK C.h₀ C.L m g' (Ret Q E) y s':=by
    intro W' h'' s' env' w y q Xe Sx rv
    refine pL fun G0 hG0=>?_
    (obtain ⟨rfl,rfl⟩:=R.v.inj q)
    obtain ⟨m',F'',_⟩:=Sx.fr
    refine hG0 ?_
    exact ⟨L',m',W'.ns,F'',Sx.nw,fun Fb Nb=>g W' s' y Xe ⟨Sx.rel,⟨m,Fb,Em.mono Xe.L⟩,Nb,Sx.gens,Sx.os⟩ rv⟩
   generalize Fb (args ++ padN (Nat.sub fn.nl fn.np)) h=r at e'
   induction r using R.casesOn with
   | nx env' h''=>intro W' s' Xe Sx; exact leave W' h'' s' _ .none _ e' Xe Sx (by simp only [RV])
   | rt w h''=>intro W' s' y Xe Sx rv; exact leave W' h'' s' _ w _ e' Xe Sx rv
   | v _ _=>exact rX e'
   | vs _ _=>exact rX e'
   | no=>exact rX e'
  ·exact z
noncomputable def isShift (v:V):Bool:=match v with | .si e=>(match e with | .r k c m a b=>b3 (b3 (Nat.beq k 0) (Nat.beq c 1) (Nat.beq m 4)) (iB a 0) (iB b 1) | _=>false) | _=>false
theorem isShift_eq {v:V} (h:isShift v=true):v=.si (.r 0 1 4 0 1):=by
 unfold isShift at h
 split at h
 ·split at h
  ·obtain ⟨h1,h2,h3⟩:=b3_t h
   obtain ⟨h4,h5,h6⟩:=b3_t h1
   rw [beq_t h4,beq_t h5,beq_t h6,iB_t h2,iB_t h3]
  ·exact bX h
 ·exact bX h
noncomputable def notUb (v:V):Bool:=match v with | .ub=>false | _=>true
theorem notUb_ne {v:V} (h:notUb v=true):v≠.ub:=by rintro rfl; exact bX h
noncomputable def restUb (l:List V):Bool:=List.rec true (fun x _ ih=>b3 (Bool.rec true false (notUb x)) ih true) l
theorem restUb_get:∀ {l:List V},restUb l=true→∀ (i:Nat) (v:V),l[i]?=some v→v=.ub
 | [],_,i,v,e=>by exact oX e
 | x::l,h,i,v,e=>by
  obtain ⟨h1,h2,_⟩:=b3_t (show b3 (Bool.rec true false (notUb x)) (restUb l) true=true from h)
  induction i using Nat.casesOn with
  | zero=>(obtain rfl:=Option.some.inj e); cases x <;> first | rfl | exact bX h1
  | succ i=>exact restUb_get h2 i v e
noncomputable def loopW (c:Ct) (n:Nat):U:=fun _ _ env h=>match env with
 | a::s::b::k::l=>ifT (b3 (b3 (notUb a) (notUb b) (isShift s)) (restUb l) (Nat.beq l.length n)) ((c.use 0 [k] h .no).bv fun _ h'=>.nx (a::s::b::k::l) h')
 | _=>.no
noncomputable def envS (sh:Nat) (l:List V):List V:=.glb 1000::.int sh::.glb 1004::.ref 0::l
noncomputable def envB (sh:Nat) (env:List V):Bool:=match env with
 | a::s::b::k::_=>b3 (b3 (match a with | .glb g=>Nat.beq g 1000 | _=>false) (match s with | .int i=>iB i sh | _=>false) (match b with | .glb g=>Nat.beq g 1004 | _=>false)) (match k with | .ref j=>Nat.beq j 0 | _=>false) true
 | _=>false
theorem envB_eq {sh:Nat} {env:List V} (h:envB sh env=true):∃ l,env=envS sh l:=by
 unfold envB at h
 split at h
 ·obtain ⟨h1,h2,_⟩:=b3_t h
  obtain ⟨h3,h4,h5⟩:=b3_t h1
  split at h3
  ·split at h4
   ·split at h5
    ·split at h2
     ·rw [beq_t h3,iB_t h4,beq_t h5,beq_t h2]; exact ⟨_,rfl⟩
     ·exact bX h2
    ·exact bX h5
   ·exact bX h4
  ·exact bX h3
 ·exact bX h
noncomputable def loopB (c:Ct) (ka:Nat→Int) (kt:Nat→O) (cf:CF) (x:X) (sh k:Nat):Bool:=
 R.rec (motive:=fun _=>Bool) (fun _ _=>false) (fun _ _=>false) (fun env2 h2=>b3 (envB sh env2) (endB c (unV ka) (unO ka kt) [] .none h2) true) (fun _ _=>false) false (sem x cf .none (envS sh (padN k)) ⟨layT (unP (unO ka kt) c.pre),c.m,[],[]⟩)
theorem padN_len:∀ n,(padN n).length=n
 | 0=>rfl
 | n + 1=>by show (V.ub::padN n).length=n + 1; rw [List.length_cons,padN_len n]
theorem restUb_eq:∀ {l:List V},restUb l=true→l=padN l.length
 | [],_=>rfl
 | x::l,h=>by
  obtain ⟨h1,h2,_⟩:=b3_t (show b3 (Bool.rec true false (notUb x)) (restUb l) true=true from h)
  have:x=.ub:=by cases x <;> first | rfl | exact bX h1
  rw [this]
  show V.ub::l=V.ub::padN l.length
  rw [← restUb_eq h2]
theorem fit_ref {r:Nat→Nat} {κ B m a:Nat} {v:V}:fitV r κ B m (.ref a) v=true→v=.ref (r a):=by
 induction v using V.casesOn <;> first | exact ft | exact fun h=>congrArg V.ref (beq_t (b3_t h).1).symm
theorem loop_ok {gn:Nat→Str} {c:Ct} {cf cf0:CF} {z:V} {x:X} {st:Stmt} {sh k:Nat} (D:GdA P gn) (K:KtOk P) (hk:KtN P) (hc:c.ok2=true) (hm0:0 < c.m) (has:c.as=[.ref 0]) (SC:∀ io raw ge,Num io raw→SndCF (P.alt io raw ge) d cf0)
  (ok:C.Ok P d) (hcl:C.cl=[]) (hnum:Num P.io P.raw) (hsh:Int.fmod (Int.fdiv (P.io 0) 1) 4=(sh:Int)) (run:loopB c P.ka P.kt cf0 x sh k=true) (hm:(mt ⟨P.nm,gn,C.names,C.cs,[]⟩ x).s st=true) :
  SndS P C (fun env h=>loopW c k cf z env h) st:=by
 intro W h env s Q E S o
 replace o:Out P C W h Q (loopW c k cf z env h):=o
 unfold loopW at o
 split at o
 ·rename_i a sv b kv l
  induction q:b3 (b3 (notUb a) (notUb b) (isShift sv)) (restUb l) (Nat.beq l.length k) using Bool.casesOn with
  | false=>rw [q] at o; exact o.elim
  | true=>
   refine pL fun G0 hG0=>?_
   rw [q] at o
   obtain ⟨q1,q2,q3⟩:=b3_t q
   obtain ⟨qa,qb,qs⟩:=b3_t q1
   have es:=isShift_eq qs
   subst es
   have o:Out P C W h Q ((c.use 0 [kv] h .no).bv fun _ h'=>.nx (a::.si (.r 0 1 4 0 1)::b::kv::l) h'):=o
   obtain ⟨v1,h1,e1,o1⟩:=Out.bv o
   refine hG0 ?_
   rcases use_v e1 with ⟨r,hf,rfl,rfl⟩ | e2
   ·obtain ⟨f1,f2,f3⟩:=b3_t hf
    refine pL fun G0 hG0=>?_
    obtain ⟨f4,f5,f6⟩:=b3_t f3
    obtain ⟨k1,k2,_⟩:=b3_t hc
    obtain ⟨c1,c2,c3⟩:=b3_t k1
    obtain ⟨c4,c5,_⟩:=b3_t c3
    have cm:c.m + c.k≤16000000:=Nat.le_of_ble_eq_true c2
    have pl:∀ p∈c.pre,p.1 < 16000000:=fun p hp=>by have:=blt_t (allB_mem c1 p hp); lia
    obtain ⟨F,L⟩:=use_fits (κ:=0) (r:=r) (args:=[kv]) hc hf S.rel
    refine hG0 ?_
    have ekv:kv=.ref (r 0):=by
     rw [has] at f1
     exact fit_ref (b3_t (show b3 (fitV r 0 1000 c.m (.ref 0) kv) (fitL r 0 1000 c.m [] []) true=true from f1)).1
    refine pL fun G0 hG0=>?_
    subst ekv
    obtain ⟨m,Fm,Em⟩:=S.fr
    obtain ⟨ge0,hge0⟩:=env_vals Em
    obtain ⟨ge,hlo,hl1,hl2⟩:=loose_of S.rel r ge0
    refine hG0 ?_
    have hge:∀ (i:Nat) (y:Str) (v:V),C.names[i]?=some y→(a::.si (.r 0 1 4 0 1)::b::.ref (r 0)::l)[i]?=some v→v≠.ub→VarAt W C.cl m y (ge (1000 + 2 * i))∧RV P W h.n v (ge (1000 + 2 * i)):=fun i y v a b c=>by rw [hlo]; exact hge0 i y v a b c
    have hn:Num (fun _=>P.io 0) (fun _=>P.raw 0):=fun _=>hnum 0
    have A:Alt P (P.alt (fun _=>P.io 0) (fun _=>P.raw 0) ge) 0 1000:=alt_of 0 _ ge
    have hl:l.length=k:=beq_t q3
    have el:l=padN k:=by rw [← hl]; exact restUb_eq q2
    have S1:St (P.alt (fun _=>P.io 0) (fun _=>P.raw 0) ge) C (W.via r) ⟨layT (unP (unO P.ka P.kt) c.pre),c.m,[],[]⟩ (envS sh (padN k)) s:=by
     have R:=F.rel A K (fun a its ep i y m hi e=>(hl1 a its ep i y m hi e).trans (alt_gv (by lia)).symm) S.rel
     refine ⟨⟨R.nod,R.inj,fun a o e=>?_,R.dom,fun p hp=>absurd hp List.not_mem_nil,fun a ha=>absurd ha List.not_mem_nil,R.low,R.non,R.lid⟩,⟨m,Fm,fun i y w h1 h2 h3=>?_⟩,S.nw,S.gens,S.os⟩
     ·obtain ⟨o0,e0,rfl⟩:=unP_get c.pre pl e
      obtain ⟨z1,z2⟩:=R.obj a o0 e0
      exact ⟨z1,(un_ro (P:=P.alt (fun _=>P.io 0) (fun _=>P.raw 0) ge) hk).mpr z2⟩
     ·match i,h2 with
      | 0,h2=>
       refine pL fun G0 hG0=>?_
       (obtain rfl:=Option.some.inj h2)
       refine hG0 ?_
       refine ⟨_,(hge 0 y a h1 rfl (notUb_ne qa)).1,?_⟩
       simp only [RV]
       exact (alt_gv (g:=1000) (by decide)).symm
      | 1,h2=>
       refine pL fun G0 hG0=>?_
       (obtain rfl:=Option.some.inj h2)
       obtain ⟨y',b1,b2⟩:=Em 1 y _ h1 rfl nofun
       refine hG0 ?_
       refine ⟨y',b1,?_⟩
       simp only [RV,SI.val] at b2 ⊢
       obtain ⟨t,rfl⟩:=b2
       refine ⟨t,?_⟩
       have e:(0:Int) + 1 * Int.fmod (Int.fdiv (P.io 0) ((1:Nat):Int)) ((4:Nat):Int)=(sh:Int):=by rw [Int.zero_add,Int.one_mul]; exact hsh
       rw [e]
      | 2,h2=>
       refine pL fun G0 hG0=>?_
       (obtain rfl:=Option.some.inj h2)
       refine hG0 ?_
       refine ⟨_,(hge 2 y b h1 rfl (notUb_ne qb)).1,?_⟩
       simp only [RV]
       exact (alt_gv (g:=1004) (by decide)).symm
      | 3,h2=>
       refine pL fun G0 hG0=>?_
       (obtain rfl:=Option.some.inj h2)
       obtain ⟨y',b1,b2⟩:=Em 3 y _ h1 rfl nofun
       refine hG0 ?_
       refine ⟨y',b1,?_⟩
       simp only [RV] at b2 ⊢
       exact ⟨hm0,b2.2⟩
      | i + 4,h2=>exact absurd (padN_get k i w h2) h3
    have B:=(D _ _ ge hn).bx (SC _ _ ge hn) (ok.alt hn) (names:=C.names) (cells:=[]) rfl fun y hy=>absurd hy List.not_mem_nil
    have run:R.rec (motive:=fun _=>Bool) (fun _ _=>false) (fun _ _=>false) (fun env2 h2=>b3 (envB sh env2) (endB c (unV P.ka) (unO P.ka P.kt) [] .none h2) true) (fun _ _=>false) false (sem x cf0 .none (envS sh (padN k)) ⟨layT (unP (unO P.ka P.kt) c.pre),c.m,[],[]⟩)=true:=run
    refine (snd_mt B x).s st hm .none _ _ _ s Q E S1 ?_
    show Out _ C _ _ Q (sem x cf0 .none (envS sh (padN k)) ⟨layT (unP (unO P.ka P.kt) c.pre),c.m,[],[]⟩)
    generalize sem x cf0 .none (envS sh (padN k)) ⟨layT (unP (unO P.ka P.kt) c.pre),c.m,[],[]⟩=rr at run
    induction rr using R.casesOn with
    | nx env2 h2=>
     refine pL fun G0 hG0=>?_
     obtain ⟨u1,u2,_⟩:=b3_t (show b3 (envB sh env2) (endB c (unV P.ka) (unO P.ka P.kt) [] .none h2) true=true from run)
     obtain ⟨l2,rfl⟩:=envB_eq u1
     refine hG0 ?_
     intro W' s' X S'
     refine pL fun G0 hG0=>?_
     obtain ⟨R2,X2,pv⟩:=run_end (P:=P.alt (fun _=>P.io 0) (fun _=>P.raw 0) ge) (rs:=[]) k1 (un_ok (P:=P.alt (fun _=>P.io 0) (fun _=>P.raw 0) ge) hk) K u2 X S'.rel
     obtain ⟨R3,X3,pv3⟩:=lift_ok A K (Nat.le_refl _) (fun g hg=>by rw [alt_gv (by lia)]; exact hl2 g hg) L S.rel X2 R2 S.rel.res
     refine hG0 ?_
     refine o1 _ s' X3 ⟨R3,?_,S'.nw,S'.gens,S'.os⟩
     obtain ⟨m',Fm',Em'⟩:=S'.fr
     refine ⟨m',Fm',fun i y w h1 h2 h3=>?_⟩
     match i,h2 with
     | 0,h2=>
      refine pL fun G0 hG0=>?_
      (obtain rfl:=Option.some.inj h2)
      obtain ⟨y',b1,b2⟩:=Em' 0 y (.glb 1000) h1 rfl nofun
      simp only [RV] at b2
      have b2:y'=ge 1000:=b2.trans (alt_gv (g:=1000) (by decide))
      subst b2
      refine hG0 ?_
      exact ⟨_,b1,(hge 0 y a h1 rfl (notUb_ne qa)).2.mono X3.L⟩
     | 1,h2=>
      refine pL fun G0 hG0=>?_
      (obtain rfl:=Option.some.inj h2)
      obtain ⟨y',b1,b2⟩:=Em' 1 y (.int sh) h1 rfl nofun
      refine hG0 ?_
      refine ⟨y',b1,?_⟩
      simp only [RV,SI.val] at b2 ⊢
      obtain ⟨t,rfl⟩:=b2
      refine ⟨t,?_⟩
      have e:(0:Int) + 1 * Int.fmod (Int.fdiv (P.io 0) ((1:Nat):Int)) ((4:Nat):Int)=(sh:Int):=by rw [Int.zero_add,Int.one_mul]; exact hsh
      rw [e]
     | 2,h2=>
      refine pL fun G0 hG0=>?_
      (obtain rfl:=Option.some.inj h2)
      obtain ⟨y',b1,b2⟩:=Em' 2 y (.glb 1004) h1 rfl nofun
      simp only [RV] at b2
      have b2:y'=ge 1004:=b2.trans (alt_gv (g:=1004) (by decide))
      subst b2
      refine hG0 ?_
      exact ⟨_,b1,(hge 2 y b h1 rfl (notUb_ne qb)).2.mono X3.L⟩
     | 3,h2=>
      refine pL fun G0 hG0=>?_
      (obtain rfl:=Option.some.inj h2)
      obtain ⟨y',b1,b2⟩:=Em' 3 y (.ref 0) h1 rfl nofun
      refine hG0 ?_
      refine ⟨y',b1,?_⟩
      simp only [RV] at b2
      obtain ⟨c',z⟩:∃ _:Nat,RV P (W.out (W'.via (sig c.m [])) h.n c.hs.n) (c.lift r h).n (renV (upr r h.n c.m) (lvOf r h) (.ref 0)) y':=⟨0,pv3 (.ref 0) y' (by
       simp only [RV]
       refine ⟨Nat.lt_of_lt_of_le hm0 (Nat.le_add_right _ _),?_⟩
       show y'=.ref (W'.si (sig c.m [] 0))
       rw [b2.2]
       unfold sig
       rw [blt_eq,decide_eq_true hm0])⟩
      have e:renV (upr r h.n c.m) (lvOf r h) (.ref 0)=.ref (r 0):=by
       show V.ref (upr r h.n c.m 0)=_
       unfold upr
       rw [blt_eq,decide_eq_true hm0]
      rw [e] at z
      exact z
     | i + 4,h2=>exact absurd (restUb_get q2 i w h2) h3
    | _=>exact bX run
   ·exact rX e2
 ·exact o.elim
noncomputable def worldU (c:Ct) (x1 x2 xr:X):U:=cSeq (sem x1) (cSeq (sem x2) (cSeq (loopW c 9) (sem xr)))
theorem world_ok {gn:Nat→Str} {c:Ct} {ih cf0:CF} {x1 x2 xf xr:X} {sh:Nat} {a:Addr} (D:GdA P gn) (D':Gd P gn) (K:KtOk P) (hk:KtN P) (hc:c.ok2=true) (hm0:0 < c.m) (has:c.as=[.ref 0]) (SC:∀ io raw ge,Num io raw→SndCF (P.alt io raw ge) d cf0) (SI:SndCF P d ih)
  (hnum:Num P.io P.raw) (hsh:Int.fmod (Int.fdiv (P.io 0) 1) 4=(sh:Int)) (run:loopB c P.ka P.kt cf0 xf sh 9=true)
  (ok:C.Ok P (d + 1)) (fo:FnOk P (fun names cs b sts=>(mt ⟨P.nm,gn,names,cs,[]⟩ b).ss sts=true) a ⟨2,13,.scons x1 (.scons x2 (.scons xf xr))⟩) {args:List V} {vs:List Value} {v:V} {Q:Value→Shared→Prop} {E:Value→Shared→Prop} (S:St P C W h env s) (ra:RVs P W h.n args vs)
  (e:enterG (fun env h=>worldU c x1 x2 xr ih .none env h) args h ⟨2,13,.scons x1 (.scons x2 (.scons xf xr))⟩=.v v h') (g:Go P C W h env h' v Q) :
  codeAny (Cx.M P) C.A (.call (.ref a) ⟨vs,[]⟩) (Ret Q E) s:=by
 refine enter_gen (fun C' ok' hcl names sts hn hm=>?_) ok fo S ra e g
 refine pL fun G0 hG0=>?_
 obtain ⟨st1,r1,rfl,m1,hm⟩:=fSs_i hm
 obtain ⟨st2,r2,rfl,m2,hm⟩:=fSs_i hm
 obtain ⟨st3,r3,rfl,m3,m4⟩:=fSs_i hm
 refine hG0 ?_
 have B:=D'.bx SI ok' hn (cells:=[]) fun y hy=>absurd hy List.not_mem_nil
 refine rule_seq (cf:=ih) (z:=.none) ((snd_mt B x1).s st1 m1 .none) (rule_seq (cf:=ih) (z:=.none) ((snd_mt B x2).s st2 m2 .none) (rule_seq (cf:=ih) (z:=.none) ?_ ((snd_mt B xr).ss r3 m4 .none)))
 exact loop_ok (cf:=ih) (z:=.none) D K hk hc hm0 has SC ok' hcl hnum hsh run (by rw [hn]; exact m3)
noncomputable def stepW (os:Nat→List En) (wf:Nat) (fn:F) (Fb:CF→List V→Hp→R) (ih:CF):CF:=fun f as h=>match f with
 | .kd fi=>Bool.rec (stepO os ih (.kd fi) as h) (enterG (Fb ih) as h fn) (Nat.beq fi wf)
 | f=>callStep ih f as h
theorem stepW_ok {gn:Nat→Str} {c:Ct} {ih cf0:CF} {x1 x2 xf xr:X} {sh wf:Nat} (D:GdA P gn) (D':Gd P gn) (K:KtOk P) (hk:KtN P) (hc:c.ok2=true) (hm0:0 < c.m) (has:c.as=[.ref 0]) (SC:∀ io raw ge,Num io raw→SndCF (P.alt io raw ge) d cf0) (SI:SndCF P d ih)
  (hnum:Num P.io P.raw) (hsh:Int.fmod (Int.fdiv (P.io 0) 1) 4=(sh:Int)) (run:loopB c P.ka P.kt cf0 xf sh 9=true) (fo:FnOk P (fun names cs b sts=>(mt ⟨P.nm,gn,names,cs,[]⟩ b).ss sts=true) (P.fa wf) ⟨2,13,.scons x1 (.scons x2 (.scons xf xr))⟩)
  {os:Nat→List En} {d0:Nat} (O:Ors P d0 os) (hd:d0≤d + 1):SndCF P (d + 1) (stepW os wf ⟨2,13,.scons x1 (.scons x2 (.scons xf xr))⟩ (fun cf env h=>worldU c x1 x2 xr cf .none env h) ih):=by
 have b:=stepO_ok D' K O hd SI
 refine ⟨(D'.step SI).1,fun C ok W h env s f args vs v h' Q E S ra e g=>?_⟩
 have e:(Bool.rec (stepO os ih (.kd f) args h) (enterG (fun env h=>worldU c x1 x2 xr ih .none env h) args h ⟨2,13,.scons x1 (.scons x2 (.scons xf xr))⟩) (Nat.beq f wf):R)=.v v h':=e
 induction q:Nat.beq f wf using Bool.casesOn with
 | true=>
  rw [q] at e
  rw [beq_t q]
  exact world_ok D D' K hk hc hm0 has SC SI hnum hsh run ok fo S ra e g
 | false=>
  rw [q] at e
  exact b.2 C ok W h env s f args vs v h' Q E S ra e g
end
end Mine
namespace Mine
noncomputable section
noncomputable def T (l:List V):V:=mkT l
noncomputable def putQ (l:List (Nat×V)) (t:Tr V):Tr V:=List.rec t (fun p _ ih=>ih.put p.1 p.2) l
noncomputable def loB (q n f:Nat):Nat→Nat→Tr V:=Nat.rec (motive:=fun _=>Nat→Nat→Tr V) (fun _ _=>.nil) (fun _ ih i s=>Bool.rec .nil (.node (some (.glb (Nat.add q (Nat.add i i)))) (ih (Nat.add i s) (Nat.add s s)) (ih (Nat.add i (Nat.add s s)) (Nat.add s s))) (Nat.blt i n)) f
noncomputable def lsL (a n:Nat) (l:List (Nat×V)):O:=.list n (putQ l (loB (Nat.add 2001 (Nat.mul 2000 a)) n 10 0 1))
noncomputable def lsP (n:Nat) (l:List (Nat×V)):O:=.list n (putQ l .nil)
noncomputable def md (j mid owner flags:Nat) (ret ps body:V) (nat:Nat) (l:List (Nat×O)):List (Nat×O):=(j,.ns [(41,.int mid),(31,.int owner),(26,.bad),(29,.bad),(24,.int flags),(40,.bad),(39,.bad),(38,.bad),(37,ret),(21,ps),(36,.bad),(35,.bad),(34,body),(33,.int nat)])::(Nat.succ j,.inst 3 j)::l
noncomputable def mo (j owner:Nat) (l:List (Nat×O)):List (Nat×O):=(j,.ns [(41,.bad),(31,.int owner),(26,.bad),(29,.bad),(24,.bad),(40,.bad),(39,.bad),(38,.bad),(37,.bad),(21,.bad),(36,.bad),(35,.bad),(34,.bad),(33,.bad)])::l
noncomputable def td (j:Nat) (x:List V) (l:List (Nat×O)):List (Nat×O):=match x with
 | [a,b,c,d,e,f]=>(j,.ns [(27,.bad),(26,.bad),(25,.bad),(24,.bad),(23,.bad),(22,a),(21,.bad),(20,.bad),(19,.bad),(18,b),(17,c),(16,.bad),(15,d),(14,.bad),(13,.bad),(12,e),(11,.bad),(10,f),(9,.bad)])::l
 | _=>l
noncomputable def sn (j:Nat) (a b c d:V) (l:List (Nat×O)):List (Nat×O):=(j,.ns [(51,a),(50,b),(49,c),(17,d),(48,.bad),(47,.bad),(46,.bad)])::l
noncomputable def codeL:List (List V):=[[T [.int 65033,.int 0],T [.int 74,.int 0],T [.int 65033,.int 1],T [.int 65026,.int 0],T [.int 65033,.int 0],T [.int 74,.int 0],T [.int 65033,.int 1],T [.int 65028,.int 0],T [.int 89,.int 0],T [.int 42,.int 0]],
 [T [.int 65033,.int 0],T [.int 76,.int 0],T [.int 65033,.int 1],T [.int 65026,.int 0],T [.int 65033,.int 0],T [.int 76,.int 0],T [.int 65033,.int 1],T [.int 65028,.int 0],T [.int 89,.int 0],T [.int 42,.int 0]],
 [T [.int 42,.int 0]],
 [T [.int 65033,.int 0],T [.int 40,T [.int 12,.int 1,.tn]],T [.int 65033,.int 0],T [.int 65033,.int 1],T [.int 65033,.int 2],T [.int 40,T [.kd 0,.int 204,.tn]],T [.int 125,T [.kd 0,.int 18]],T [.int 42,.int 0]],
 [T [.int 65033,.int 0],T [.int 123,T [.kd 0,.int 18]],T [.int 40,T [.kd 0,.int 205,.tn]],T [.int 42,.int 0]],
 [T [.int 65033,.int 0],T [.int 123,T [.kd 0,.int 18]],T [.int 40,T [.kd 0,.int 205,.tn]],T [.int 20,.int 0],T [.int 65025,.int 0],T [.int 32,.int 0],T [.int 65025,.int 0],T [.int 42,.int 0]],
 [T [.int 65033,.int 0],T [.int 57,.int 10],T [.int 65033,.int 1],T [.int 57,.int 10],T [.int 65033,.int 0],T [.int 123,T [.kd 1,.int 19]],T [.int 65033,.int 1],T [.int 123,T [.kd 1,.int 19]],T [.int 65025,.int 0],T [.int 42,.int 0],T [.int 65033,.int 0],T [.int 65033,.int 1],T [.int 65025,.int 0],T [.int 42,.int 0]],
 [T [.int 65033,.int 0],T [.int 65033,.int 1],T [.int 40,T [.kd 1,.int 200,.tn]],T [.int 32,.int 0],T [.int 65025,.int 0],T [.int 42,.int 0]],
 [T [.int 65033,.int 0],T [.int 65033,.int 1],T [.int 117,.kd 1],T [.int 40,T [.kd 1,.int 200,.tn]],T [.int 42,.int 0]],
 [T [.int 65033,.int 0],T [.int 123,T [.kd 1,.int 19]],T [.int 42,.int 0]],
 [T [.int 65033,.int 0],T [.int 65033,.int 1],T [.int 40,T [.kd 2,.int 62,.tn]],T [.int 32,.int 0],T [.int 65025,.int 0],T [.int 42,.int 0]],
 [T [.int 65033,.int 0],T [.int 58,.int 4],T [.int 20,.int 0],T [.int 56,.int 6],T [.int 65033,.int 0],T [.int 111,T [.int 12,.int 2,.tn]],T [.int 40,T [.kd 3,.int 185,.tn]],T [.int 42,.int 0]]]
noncomputable def codeO (i:Nat):O:=match nth codeL i with | some l=>mkL l | none=>.rng 0 0
noncomputable def unC (o:O):O:=match o with
 | .kt st=>Bool.rec (.kt st) (codeO (Nat.sub st 1000)) (Nat.ble 1000 st)
 | .list n t=>.list n t
 | .dict es=>.dict es
 | .inst c d=>.inst c d
 | .ns es=>.ns es
 | .rng x y=>.rng x y
end
end Mine
namespace Mine
noncomputable section
structure KR where
 row:V
 d:Int
 w:Int
 o:Int
noncomputable def primKR:List KR:=[⟨.tc (.int 1) (.tc (.int 0) .tn),1,1,0⟩,⟨.tc (.int 1) (.tc (.int 1) .tn),1,1,0⟩,⟨.tc (.int 1) (.tc (.int 2) .tn),1,1,0⟩,⟨.tc (.int 1) (.tc (.int 3) .tn),1,1,0⟩,⟨.tc (.int 1) (.tc (.int 4) .tn),1,1,0⟩,⟨.tc (.int 1) (.tc (.int 5) .tn),1,1,0⟩,⟨.tc (.int 1) (.tc (.int 6) .tn),1,1,0⟩,⟨.tc (.int 1) (.tc (.int 7) .tn),1,1,0⟩,⟨.tc (.int 1) (.tc (.int 8) .tn),1,1,0⟩,⟨.tc (.int 1) (.tc (.int 9) .tn),1,1,0⟩,⟨.tc (.int 1) (.tc (.int 10) .tn),1,1,0⟩,⟨.tc (.int 1) (.tc (.int 11) .tn),1,1,0⟩,⟨.tc (.int 1) (.tc (.int 12) .tn),1,1,0⟩,⟨.tc (.int 1) (.tc (.int 13) .tn),1,1,0⟩,⟨.tc (.int 1) (.tc (.int 14) .tn),1,1,0⟩,⟨.tc (.int 1) (.tc (.int 15) .tn),1,1,0⟩]
noncomputable def shKR:List KR:=[⟨.tc (.int 4) (.tc (.int 9) .tn),2,2,0⟩,⟨.tc (.int 4) (.tc (.int 13) .tn),2,2,0⟩,⟨.tc (.int 4) (.tc (.int 12) .tn),2,2,0⟩]
noncomputable def ks0:List KR:=[]
noncomputable def ks1:List KR:=[⟨(.tc (.int 2) (.tc (.int 50) (.tc .tn .tn))),1,1,0⟩]
noncomputable def ks2:List KR:=[⟨(.tc (.int 2) (.tc (.int 50) (.tc .tn .tn))),1,1,0⟩,⟨(.tc (.int 2) (.tc (.int 51) (.tc .tn .tn))),1,1,0⟩]
noncomputable def ks3:List KR:=[⟨(.tc (.int 2) (.tc (.int 50) (.tc .tn .tn))),1,1,0⟩,⟨(.tc (.int 2) (.tc (.int 51) (.tc .tn .tn))),1,1,0⟩,⟨(.tc (.int 2) (.tc (.int 6) (.tc .tn .tn))),1,1,0⟩]
noncomputable def ks4:List KR:=[⟨(.tc (.int 2) (.tc (.int 50) (.tc .tn .tn))),1,1,0⟩,⟨(.tc (.int 2) (.tc (.int 51) (.tc .tn .tn))),1,1,0⟩,⟨(.tc (.int 2) (.tc (.int 6) (.tc .tn .tn))),1,1,0⟩,⟨(.tc (.int 2) (.tc (.int 43) (.tc .tn .tn))),1,1,0⟩]
noncomputable def ks5:List KR:=[⟨(.tc (.int 2) (.tc (.int 50) (.tc .tn .tn))),1,1,0⟩,⟨(.tc (.int 2) (.tc (.int 51) (.tc .tn .tn))),1,1,0⟩,⟨(.tc (.int 2) (.tc (.int 6) (.tc .tn .tn))),1,1,0⟩,⟨(.tc (.int 2) (.tc (.int 43) (.tc .tn .tn))),1,1,0⟩,⟨(.tc (.int 2) (.tc (.int 49) (.tc .tn .tn))),1,1,0⟩]
noncomputable def ks6:List KR:=[⟨(.tc (.int 2) (.tc (.int 50) (.tc .tn .tn))),1,1,0⟩,⟨(.tc (.int 2) (.tc (.int 51) (.tc .tn .tn))),1,1,0⟩,⟨(.tc (.int 2) (.tc (.int 6) (.tc .tn .tn))),1,1,0⟩,⟨(.tc (.int 2) (.tc (.int 43) (.tc .tn .tn))),1,1,0⟩,⟨(.tc (.int 2) (.tc (.int 49) (.tc .tn .tn))),1,1,0⟩,⟨(.tc (.int 4) (.tc (.kd 2) .tn)),2,2,0⟩]
noncomputable def ks7:List KR:=[⟨(.tc (.int 2) (.tc (.int 50) (.tc .tn .tn))),1,1,0⟩,⟨(.tc (.int 2) (.tc (.int 51) (.tc .tn .tn))),1,1,0⟩,⟨(.tc (.int 2) (.tc (.int 6) (.tc .tn .tn))),1,1,0⟩,⟨(.tc (.int 2) (.tc (.int 43) (.tc .tn .tn))),1,1,0⟩,⟨(.tc (.int 2) (.tc (.int 49) (.tc .tn .tn))),1,1,0⟩,⟨(.tc (.int 4) (.tc (.kd 2) .tn)),2,2,0⟩,⟨(.tc (.int 5) (.tc (.int 7) .tn)),1,2,0⟩]
noncomputable def ks8:List KR:=[⟨(.tc (.int 2) (.tc (.int 50) (.tc .tn .tn))),1,1,0⟩,⟨(.tc (.int 2) (.tc (.int 51) (.tc .tn .tn))),1,1,0⟩,⟨(.tc (.int 2) (.tc (.int 6) (.tc .tn .tn))),1,1,0⟩,⟨(.tc (.int 2) (.tc (.int 43) (.tc .tn .tn))),1,1,0⟩,⟨(.tc (.int 2) (.tc (.int 49) (.tc .tn .tn))),1,1,0⟩,⟨(.tc (.int 4) (.tc (.kd 2) .tn)),2,2,0⟩,⟨(.tc (.int 5) (.tc (.int 7) .tn)),1,2,0⟩,⟨(.tc (.int 5) (.tc (.int 9) .tn)),1,2,0⟩]
noncomputable def ks9:List KR:=[⟨(.tc (.int 2) (.tc (.int 50) (.tc .tn .tn))),1,1,0⟩,⟨(.tc (.int 2) (.tc (.int 51) (.tc .tn .tn))),1,1,0⟩,⟨(.tc (.int 2) (.tc (.int 6) (.tc .tn .tn))),1,1,0⟩,⟨(.tc (.int 2) (.tc (.int 43) (.tc .tn .tn))),1,1,0⟩,⟨(.tc (.int 2) (.tc (.int 49) (.tc .tn .tn))),1,1,0⟩,⟨(.tc (.int 4) (.tc (.kd 2) .tn)),2,2,0⟩,⟨(.tc (.int 5) (.tc (.int 7) .tn)),1,2,0⟩,⟨(.tc (.int 5) (.tc (.int 9) .tn)),1,2,0⟩,⟨(.tc (.int 2) (.tc (.int 48) (.tc (.tc (.int 7) .tn) .tn))),2,2,0⟩]
noncomputable def ks10:List KR:=[⟨(.tc (.int 2) (.tc (.int 50) (.tc .tn .tn))),1,1,0⟩,⟨(.tc (.int 2) (.tc (.int 51) (.tc .tn .tn))),1,1,0⟩,⟨(.tc (.int 2) (.tc (.int 6) (.tc .tn .tn))),1,1,0⟩,⟨(.tc (.int 2) (.tc (.int 43) (.tc .tn .tn))),1,1,0⟩,⟨(.tc (.int 2) (.tc (.int 49) (.tc .tn .tn))),1,1,0⟩,⟨(.tc (.int 4) (.tc (.kd 2) .tn)),2,2,0⟩,⟨(.tc (.int 5) (.tc (.int 7) .tn)),1,2,0⟩,⟨(.tc (.int 5) (.tc (.int 9) .tn)),1,2,0⟩,⟨(.tc (.int 6) (.tc (.int 0) .tn)),1,1,1⟩]
noncomputable def ks11:List KR:=[⟨(.tc (.int 2) (.tc (.int 50) (.tc .tn .tn))),1,1,0⟩,⟨(.tc (.int 2) (.tc (.int 51) (.tc .tn .tn))),1,1,0⟩,⟨(.tc (.int 2) (.tc (.int 6) (.tc .tn .tn))),1,1,0⟩,⟨(.tc (.int 2) (.tc (.int 43) (.tc .tn .tn))),1,1,0⟩,⟨(.tc (.int 2) (.tc (.int 49) (.tc .tn .tn))),1,1,0⟩,⟨(.tc (.int 4) (.tc (.kd 2) .tn)),2,2,0⟩,⟨(.tc (.int 5) (.tc (.int 7) .tn)),1,2,0⟩,⟨(.tc (.int 5) (.tc (.int 9) .tn)),1,2,0⟩,⟨(.tc (.int 2) (.tc (.int 48) (.tc (.tc (.int 7) .tn) .tn))),2,2,0⟩,⟨(.tc (.int 2) (.tc (.int 48) (.tc (.tc (.int 9) .tn) .tn))),2,2,0⟩]
noncomputable def ks12:List KR:=[⟨(.tc (.int 2) (.tc (.int 50) (.tc .tn .tn))),1,1,0⟩,⟨(.tc (.int 2) (.tc (.int 51) (.tc .tn .tn))),1,1,0⟩,⟨(.tc (.int 2) (.tc (.int 6) (.tc .tn .tn))),1,1,0⟩,⟨(.tc (.int 2) (.tc (.int 43) (.tc .tn .tn))),1,1,0⟩,⟨(.tc (.int 2) (.tc (.int 49) (.tc .tn .tn))),1,1,0⟩,⟨(.tc (.int 4) (.tc (.kd 2) .tn)),2,2,0⟩,⟨(.tc (.int 5) (.tc (.int 7) .tn)),1,2,0⟩,⟨(.tc (.int 5) (.tc (.int 9) .tn)),1,2,0⟩,⟨(.tc (.int 6) (.tc (.int 0) .tn)),1,1,1⟩,⟨(.tc (.int 6) (.tc (.int 1) .tn)),1,1,1⟩]
noncomputable def ks13:List KR:=[⟨(.tc (.int 2) (.tc (.int 50) (.tc .tn .tn))),1,1,0⟩,⟨(.tc (.int 2) (.tc (.int 51) (.tc .tn .tn))),1,1,0⟩,⟨(.tc (.int 2) (.tc (.int 6) (.tc .tn .tn))),1,1,0⟩,⟨(.tc (.int 2) (.tc (.int 43) (.tc .tn .tn))),1,1,0⟩,⟨(.tc (.int 2) (.tc (.int 49) (.tc .tn .tn))),1,1,0⟩,⟨(.tc (.int 4) (.tc (.kd 2) .tn)),2,2,0⟩,⟨(.tc (.int 5) (.tc (.int 7) .tn)),1,2,0⟩,⟨(.tc (.int 5) (.tc (.int 9) .tn)),1,2,0⟩,⟨(.tc (.int 2) (.tc (.int 48) (.tc (.tc (.int 7) .tn) .tn))),2,2,0⟩,⟨(.tc (.int 2) (.tc (.int 48) (.tc (.tc (.int 9) .tn) .tn))),2,2,0⟩,⟨(.tc (.int 6) (.tc (.int 0) .tn)),1,1,1⟩]
noncomputable def ks14:List KR:=[⟨(.tc (.int 2) (.tc (.int 50) (.tc .tn .tn))),1,1,0⟩,⟨(.tc (.int 2) (.tc (.int 51) (.tc .tn .tn))),1,1,0⟩,⟨(.tc (.int 2) (.tc (.int 6) (.tc .tn .tn))),1,1,0⟩,⟨(.tc (.int 2) (.tc (.int 43) (.tc .tn .tn))),1,1,0⟩,⟨(.tc (.int 2) (.tc (.int 49) (.tc .tn .tn))),1,1,0⟩,⟨(.tc (.int 4) (.tc (.kd 2) .tn)),2,2,0⟩,⟨(.tc (.int 5) (.tc (.int 7) .tn)),1,2,0⟩,⟨(.tc (.int 5) (.tc (.int 9) .tn)),1,2,0⟩,⟨(.tc (.int 6) (.tc (.int 0) .tn)),1,1,1⟩,⟨(.tc (.int 6) (.tc (.int 1) .tn)),1,1,1⟩,⟨(.tc (.int 6) (.tc (.int 2) .tn)),1,1,1⟩]
noncomputable def ks15:List KR:=[⟨(.tc (.int 2) (.tc (.int 50) (.tc .tn .tn))),1,1,0⟩,⟨(.tc (.int 2) (.tc (.int 51) (.tc .tn .tn))),1,1,0⟩,⟨(.tc (.int 2) (.tc (.int 6) (.tc .tn .tn))),1,1,0⟩,⟨(.tc (.int 2) (.tc (.int 43) (.tc .tn .tn))),1,1,0⟩,⟨(.tc (.int 2) (.tc (.int 49) (.tc .tn .tn))),1,1,0⟩,⟨(.tc (.int 4) (.tc (.kd 2) .tn)),2,2,0⟩,⟨(.tc (.int 5) (.tc (.int 7) .tn)),1,2,0⟩,⟨(.tc (.int 5) (.tc (.int 9) .tn)),1,2,0⟩,⟨(.tc (.int 2) (.tc (.int 48) (.tc (.tc (.int 7) .tn) .tn))),2,2,0⟩,⟨(.tc (.int 2) (.tc (.int 48) (.tc (.tc (.int 9) .tn) .tn))),2,2,0⟩,⟨(.tc (.int 6) (.tc (.int 0) .tn)),1,1,1⟩,⟨(.tc (.int 6) (.tc (.int 1) .tn)),1,1,1⟩]
noncomputable def ks16:List KR:=[⟨(.tc (.int 2) (.tc (.int 50) (.tc .tn .tn))),1,1,0⟩,⟨(.tc (.int 2) (.tc (.int 51) (.tc .tn .tn))),1,1,0⟩,⟨(.tc (.int 2) (.tc (.int 6) (.tc .tn .tn))),1,1,0⟩,⟨(.tc (.int 2) (.tc (.int 43) (.tc .tn .tn))),1,1,0⟩,⟨(.tc (.int 2) (.tc (.int 49) (.tc .tn .tn))),1,1,0⟩,⟨(.tc (.int 4) (.tc (.kd 2) .tn)),2,2,0⟩,⟨(.tc (.int 5) (.tc (.int 7) .tn)),1,2,0⟩,⟨(.tc (.int 5) (.tc (.int 9) .tn)),1,2,0⟩,⟨(.tc (.int 6) (.tc (.int 0) .tn)),1,1,1⟩,⟨(.tc (.int 6) (.tc (.int 1) .tn)),1,1,1⟩,⟨(.tc (.int 6) (.tc (.int 2) .tn)),1,1,1⟩,⟨(.tc (.int 2) (.tc (.int 48) (.tc (.tc (.int 7) .tn) .tn))),2,2,0⟩]
noncomputable def ks17:List KR:=[⟨(.tc (.int 2) (.tc (.int 50) (.tc .tn .tn))),1,1,0⟩,⟨(.tc (.int 2) (.tc (.int 51) (.tc .tn .tn))),1,1,0⟩,⟨(.tc (.int 2) (.tc (.int 6) (.tc .tn .tn))),1,1,0⟩,⟨(.tc (.int 2) (.tc (.int 43) (.tc .tn .tn))),1,1,0⟩,⟨(.tc (.int 2) (.tc (.int 49) (.tc .tn .tn))),1,1,0⟩,⟨(.tc (.int 4) (.tc (.kd 2) .tn)),2,2,0⟩,⟨(.tc (.int 5) (.tc (.int 7) .tn)),1,2,0⟩,⟨(.tc (.int 5) (.tc (.int 9) .tn)),1,2,0⟩,⟨(.tc (.int 2) (.tc (.int 48) (.tc (.tc (.int 7) .tn) .tn))),2,2,0⟩,⟨(.tc (.int 2) (.tc (.int 48) (.tc (.tc (.int 9) .tn) .tn))),2,2,0⟩,⟨(.tc (.int 6) (.tc (.int 0) .tn)),1,1,1⟩,⟨(.tc (.int 6) (.tc (.int 1) .tn)),1,1,1⟩,⟨(.tc (.int 6) (.tc (.int 2) .tn)),1,1,1⟩]
noncomputable def ks18:List KR:=[⟨(.tc (.int 2) (.tc (.int 50) (.tc .tn .tn))),1,1,0⟩,⟨(.tc (.int 2) (.tc (.int 51) (.tc .tn .tn))),1,1,0⟩,⟨(.tc (.int 2) (.tc (.int 6) (.tc .tn .tn))),1,1,0⟩,⟨(.tc (.int 2) (.tc (.int 43) (.tc .tn .tn))),1,1,0⟩,⟨(.tc (.int 2) (.tc (.int 49) (.tc .tn .tn))),1,1,0⟩,⟨(.tc (.int 4) (.tc (.kd 2) .tn)),2,2,0⟩,⟨(.tc (.int 5) (.tc (.int 7) .tn)),1,2,0⟩,⟨(.tc (.int 5) (.tc (.int 9) .tn)),1,2,0⟩,⟨(.tc (.int 6) (.tc (.int 0) .tn)),1,1,1⟩,⟨(.tc (.int 6) (.tc (.int 1) .tn)),1,1,1⟩,⟨(.tc (.int 6) (.tc (.int 2) .tn)),1,1,1⟩,⟨(.tc (.int 2) (.tc (.int 48) (.tc (.tc (.int 7) .tn) .tn))),2,2,0⟩,⟨(.tc (.int 2) (.tc (.int 48) (.tc (.tc (.int 9) .tn) .tn))),2,2,0⟩]
noncomputable def ksL:List (List KR):=[ks0,ks1,ks2,ks3,ks4,ks5,ks6,ks7,ks8,ks9,ks10,ks11,ks12,ks13,ks14,ks15,ks16,ks17,ks18]
noncomputable def numV (b n:Nat):V:=Bool.rec (.kd (Nat.sub n b)) (.int (Int.ofNat n)) (Nat.blt n b)
noncomputable def numE (b:Nat) (l:List KR):Nat→List (V×V):=List.rec (motive:=fun _=>Nat→List (V×V)) (fun _=>[]) (fun x _ ih n=>(x.row,numV b n)::ih (Nat.succ n)) l
noncomputable def mapK {α:Type} (f:KR→α) (l:List KR):List α:=List.rec [] (fun x _ ih=>f x::ih) l
noncomputable def appK (a b:List KR):List KR:=List.rec b (fun x _ ih=>x::ih) a
noncomputable def ktO (sh:Nat) (ks:List KR) (i:Nat):O:=match i with
 | 0=>mkL (mapK (fun x=>x.row) (appK primKR (appK (shKR.take sh) ks)))
 | 1=>.dict (numE (Nat.add 16 sh) (appK primKR (appK (shKR.take sh) ks)) 0)
 | 2=>mkL (mapK (fun x=>.int x.d) (appK primKR (appK (shKR.take sh) ks)))
 | 3=>mkL (mapK (fun x=>.int x.w) (appK primKR (appK (shKR.take sh) ks)))
 | _=>mkL (mapK (fun x=>.int x.o) (appK primKR (appK (shKR.take sh) ks)))
noncomputable def ktF (sh tag:Nat):O:=match nth ksL (tag / 5) with | some ks=>ktO sh ks (tag % 5) | none=>.rng 0 0
noncomputable def ktG (sh tag:Nat):O:=Bool.rec (ktF sh tag) (codeO (Nat.sub tag 1000)) (Nat.ble 1000 tag)
noncomputable def kaF (sh j:Nat):Int:=((16 + sh + j:Nat):Int)
noncomputable def putL:List Ct:=[⟨[.ref 0,(.tc (.int 2) (.tc (.int 50) (.tc .tn .tn)))],7,[(0,.inst 0 1),(1,.ns [(5,.ref 2),(4,.ref 3),(3,.ref 4),(2,.ref 5),(0,.ref 6)]),(2,.kt 0),(3,.kt 1),(4,.kt 2),(5,.kt 3),(6,.kt 4)],[(2,.kt 5),(3,.kt 6),(4,.kt 7),(5,.kt 8),(6,.kt 9)],0,[2,3,4,5,6],.kd 0⟩,
 ⟨[.ref 0,(.tc (.int 2) (.tc (.int 51) (.tc .tn .tn)))],7,[(0,.inst 0 1),(1,.ns [(5,.ref 2),(4,.ref 3),(3,.ref 4),(2,.ref 5),(0,.ref 6)]),(2,.kt 5),(3,.kt 6),(4,.kt 7),(5,.kt 8),(6,.kt 9)],[(2,.kt 10),(3,.kt 11),(4,.kt 12),(5,.kt 13),(6,.kt 14)],0,[2,3,4,5,6],.kd 1⟩,
 ⟨[.ref 0,(.tc (.int 2) (.tc (.int 6) (.tc .tn .tn)))],7,[(0,.inst 0 1),(1,.ns [(5,.ref 2),(4,.ref 3),(3,.ref 4),(2,.ref 5),(0,.ref 6)]),(2,.kt 10),(3,.kt 11),(4,.kt 12),(5,.kt 13),(6,.kt 14)],[(2,.kt 15),(3,.kt 16),(4,.kt 17),(5,.kt 18),(6,.kt 19)],0,[2,3,4,5,6],.kd 2⟩,
 ⟨[.ref 0,(.tc (.int 2) (.tc (.int 43) (.tc .tn .tn)))],7,[(0,.inst 0 1),(1,.ns [(5,.ref 2),(4,.ref 3),(3,.ref 4),(2,.ref 5),(0,.ref 6)]),(2,.kt 15),(3,.kt 16),(4,.kt 17),(5,.kt 18),(6,.kt 19)],[(2,.kt 20),(3,.kt 21),(4,.kt 22),(5,.kt 23),(6,.kt 24)],0,[2,3,4,5,6],.kd 3⟩,
 ⟨[.ref 0,(.tc (.int 2) (.tc (.int 43) (.tc .tn .tn)))],7,[(0,.inst 0 1),(1,.ns [(5,.ref 2),(4,.ref 3),(3,.ref 4),(2,.ref 5),(0,.ref 6)]),(2,.kt 20),(3,.kt 21),(4,.kt 22),(5,.kt 23),(6,.kt 24)],[],0,[],.kd 3⟩,
 ⟨[.ref 0,(.tc (.int 2) (.tc (.int 49) (.tc .tn .tn)))],7,[(0,.inst 0 1),(1,.ns [(5,.ref 2),(4,.ref 3),(3,.ref 4),(2,.ref 5),(0,.ref 6)]),(2,.kt 20),(3,.kt 21),(4,.kt 22),(5,.kt 23),(6,.kt 24)],[(2,.kt 25),(3,.kt 26),(4,.kt 27),(5,.kt 28),(6,.kt 29)],0,[2,3,4,5,6],.kd 4⟩,
 ⟨[.ref 0,(.tc (.int 4) (.tc (.kd 2) .tn))],7,[(0,.inst 0 1),(1,.ns [(5,.ref 2),(4,.ref 3),(3,.ref 4),(2,.ref 5),(0,.ref 6)]),(2,.kt 25),(3,.kt 26),(4,.kt 27),(5,.kt 28),(6,.kt 29)],[(2,.kt 30),(3,.kt 31),(4,.kt 32),(5,.kt 33),(6,.kt 34)],0,[2,3,4,5,6],.kd 5⟩,
 ⟨[.ref 0,(.tc (.int 5) (.tc (.int 7) .tn))],7,[(0,.inst 0 1),(1,.ns [(5,.ref 2),(4,.ref 3),(3,.ref 4),(2,.ref 5),(0,.ref 6)]),(2,.kt 30),(3,.kt 31),(4,.kt 32),(5,.kt 33),(6,.kt 34)],[(2,.kt 35),(3,.kt 36),(4,.kt 37),(5,.kt 38),(6,.kt 39)],0,[2,3,4,5,6],.kd 6⟩,
 ⟨[.ref 0,(.tc (.int 5) (.tc (.int 9) .tn))],7,[(0,.inst 0 1),(1,.ns [(5,.ref 2),(4,.ref 3),(3,.ref 4),(2,.ref 5),(0,.ref 6)]),(2,.kt 35),(3,.kt 36),(4,.kt 37),(5,.kt 38),(6,.kt 39)],[(2,.kt 40),(3,.kt 41),(4,.kt 42),(5,.kt 43),(6,.kt 44)],0,[2,3,4,5,6],.kd 7⟩,
 ⟨[.ref 0,(.tc (.int 2) (.tc (.int 50) (.tc .tn .tn)))],7,[(0,.inst 0 1),(1,.ns [(5,.ref 2),(4,.ref 3),(3,.ref 4),(2,.ref 5),(0,.ref 6)]),(2,.kt 40),(3,.kt 41),(4,.kt 42),(5,.kt 43),(6,.kt 44)],[],0,[],.kd 0⟩,
 ⟨[.ref 0,(.tc (.int 2) (.tc (.int 51) (.tc .tn .tn)))],7,[(0,.inst 0 1),(1,.ns [(5,.ref 2),(4,.ref 3),(3,.ref 4),(2,.ref 5),(0,.ref 6)]),(2,.kt 40),(3,.kt 41),(4,.kt 42),(5,.kt 43),(6,.kt 44)],[],0,[],.kd 1⟩,
 ⟨[.ref 0,(.tc (.int 2) (.tc (.int 48) (.tc (.tc (.int 7) .tn) .tn)))],7,[(0,.inst 0 1),(1,.ns [(5,.ref 2),(4,.ref 3),(3,.ref 4),(2,.ref 5),(0,.ref 6)]),(2,.kt 40),(3,.kt 41),(4,.kt 42),(5,.kt 43),(6,.kt 44)],[(2,.kt 45),(3,.kt 46),(4,.kt 47),(5,.kt 48),(6,.kt 49)],0,[2,3,4,5,6],.kd 8⟩,
 ⟨[.ref 0,(.tc (.int 2) (.tc (.int 48) (.tc (.tc (.int 9) .tn) .tn)))],7,[(0,.inst 0 1),(1,.ns [(5,.ref 2),(4,.ref 3),(3,.ref 4),(2,.ref 5),(0,.ref 6)]),(2,.kt 45),(3,.kt 46),(4,.kt 47),(5,.kt 48),(6,.kt 49)],[(2,.kt 55),(3,.kt 56),(4,.kt 57),(5,.kt 58),(6,.kt 59)],0,[2,3,4,5,6],.kd 9⟩,
 ⟨[.ref 0,(.tc (.int 2) (.tc (.int 6) (.tc .tn .tn)))],7,[(0,.inst 0 1),(1,.ns [(5,.ref 2),(4,.ref 3),(3,.ref 4),(2,.ref 5),(0,.ref 6)]),(2,.kt 40),(3,.kt 41),(4,.kt 42),(5,.kt 43),(6,.kt 44)],[],0,[],.kd 2⟩,
 ⟨[.ref 0,(.tc (.int 6) (.tc (.int 0) .tn))],7,[(0,.inst 0 1),(1,.ns [(5,.ref 2),(4,.ref 3),(3,.ref 4),(2,.ref 5),(0,.ref 6)]),(2,.kt 40),(3,.kt 41),(4,.kt 42),(5,.kt 43),(6,.kt 44)],[(2,.kt 50),(3,.kt 51),(4,.kt 52),(5,.kt 53),(6,.kt 54)],0,[2,3,4,5,6],.kd 8⟩,
 ⟨[.ref 0,(.tc (.int 6) (.tc (.int 1) .tn))],7,[(0,.inst 0 1),(1,.ns [(5,.ref 2),(4,.ref 3),(3,.ref 4),(2,.ref 5),(0,.ref 6)]),(2,.kt 50),(3,.kt 51),(4,.kt 52),(5,.kt 53),(6,.kt 54)],[(2,.kt 60),(3,.kt 61),(4,.kt 62),(5,.kt 63),(6,.kt 64)],0,[2,3,4,5,6],.kd 9⟩,
 ⟨[.ref 0,(.tc (.int 4) (.tc (.kd 2) .tn))],7,[(0,.inst 0 1),(1,.ns [(5,.ref 2),(4,.ref 3),(3,.ref 4),(2,.ref 5),(0,.ref 6)]),(2,.kt 60),(3,.kt 61),(4,.kt 62),(5,.kt 63),(6,.kt 64)],[],0,[],.kd 5⟩,
 ⟨[.ref 0,(.tc (.int 6) (.tc (.int 2) .tn))],7,[(0,.inst 0 1),(1,.ns [(5,.ref 2),(4,.ref 3),(3,.ref 4),(2,.ref 5),(0,.ref 6)]),(2,.kt 60),(3,.kt 61),(4,.kt 62),(5,.kt 63),(6,.kt 64)],[(2,.kt 70),(3,.kt 71),(4,.kt 72),(5,.kt 73),(6,.kt 74)],0,[2,3,4,5,6],.kd 10⟩,
 ⟨[.ref 0,(.tc (.int 2) (.tc (.int 43) (.tc .tn .tn)))],7,[(0,.inst 0 1),(1,.ns [(5,.ref 2),(4,.ref 3),(3,.ref 4),(2,.ref 5),(0,.ref 6)]),(2,.kt 40),(3,.kt 41),(4,.kt 42),(5,.kt 43),(6,.kt 44)],[],0,[],.kd 3⟩,
 ⟨[.ref 0,(.tc (.int 2) (.tc (.int 50) (.tc .tn .tn)))],7,[(0,.inst 0 1),(1,.ns [(5,.ref 2),(4,.ref 3),(3,.ref 4),(2,.ref 5),(0,.ref 6)]),(2,.kt 55),(3,.kt 56),(4,.kt 57),(5,.kt 58),(6,.kt 59)],[],0,[],.kd 0⟩,
 ⟨[.ref 0,(.tc (.int 2) (.tc (.int 51) (.tc .tn .tn)))],7,[(0,.inst 0 1),(1,.ns [(5,.ref 2),(4,.ref 3),(3,.ref 4),(2,.ref 5),(0,.ref 6)]),(2,.kt 55),(3,.kt 56),(4,.kt 57),(5,.kt 58),(6,.kt 59)],[],0,[],.kd 1⟩,
 ⟨[.ref 0,(.tc (.int 2) (.tc (.int 50) (.tc .tn .tn)))],7,[(0,.inst 0 1),(1,.ns [(5,.ref 2),(4,.ref 3),(3,.ref 4),(2,.ref 5),(0,.ref 6)]),(2,.kt 70),(3,.kt 71),(4,.kt 72),(5,.kt 73),(6,.kt 74)],[],0,[],.kd 0⟩,
 ⟨[.ref 0,(.tc (.int 2) (.tc (.int 51) (.tc .tn .tn)))],7,[(0,.inst 0 1),(1,.ns [(5,.ref 2),(4,.ref 3),(3,.ref 4),(2,.ref 5),(0,.ref 6)]),(2,.kt 70),(3,.kt 71),(4,.kt 72),(5,.kt 73),(6,.kt 74)],[],0,[],.kd 1⟩,
 ⟨[.ref 0,(.tc (.int 2) (.tc (.int 48) (.tc (.tc (.int 7) .tn) .tn)))],7,[(0,.inst 0 1),(1,.ns [(5,.ref 2),(4,.ref 3),(3,.ref 4),(2,.ref 5),(0,.ref 6)]),(2,.kt 55),(3,.kt 56),(4,.kt 57),(5,.kt 58),(6,.kt 59)],[],0,[],.kd 8⟩,
 ⟨[.ref 0,(.tc (.int 2) (.tc (.int 48) (.tc (.tc (.int 9) .tn) .tn)))],7,[(0,.inst 0 1),(1,.ns [(5,.ref 2),(4,.ref 3),(3,.ref 4),(2,.ref 5),(0,.ref 6)]),(2,.kt 55),(3,.kt 56),(4,.kt 57),(5,.kt 58),(6,.kt 59)],[],0,[],.kd 9⟩,
 ⟨[.ref 0,(.tc (.int 2) (.tc (.int 6) (.tc .tn .tn)))],7,[(0,.inst 0 1),(1,.ns [(5,.ref 2),(4,.ref 3),(3,.ref 4),(2,.ref 5),(0,.ref 6)]),(2,.kt 55),(3,.kt 56),(4,.kt 57),(5,.kt 58),(6,.kt 59)],[],0,[],.kd 2⟩,
 ⟨[.ref 0,(.tc (.int 6) (.tc (.int 0) .tn))],7,[(0,.inst 0 1),(1,.ns [(5,.ref 2),(4,.ref 3),(3,.ref 4),(2,.ref 5),(0,.ref 6)]),(2,.kt 55),(3,.kt 56),(4,.kt 57),(5,.kt 58),(6,.kt 59)],[(2,.kt 65),(3,.kt 66),(4,.kt 67),(5,.kt 68),(6,.kt 69)],0,[2,3,4,5,6],.kd 10⟩,
 ⟨[.ref 0,(.tc (.int 6) (.tc (.int 1) .tn))],7,[(0,.inst 0 1),(1,.ns [(5,.ref 2),(4,.ref 3),(3,.ref 4),(2,.ref 5),(0,.ref 6)]),(2,.kt 65),(3,.kt 66),(4,.kt 67),(5,.kt 68),(6,.kt 69)],[(2,.kt 75),(3,.kt 76),(4,.kt 77),(5,.kt 78),(6,.kt 79)],0,[2,3,4,5,6],.kd 11⟩,
 ⟨[.ref 0,(.tc (.int 4) (.tc (.kd 2) .tn))],7,[(0,.inst 0 1),(1,.ns [(5,.ref 2),(4,.ref 3),(3,.ref 4),(2,.ref 5),(0,.ref 6)]),(2,.kt 75),(3,.kt 76),(4,.kt 77),(5,.kt 78),(6,.kt 79)],[],0,[],.kd 5⟩,
 ⟨[.ref 0,(.tc (.int 6) (.tc (.int 2) .tn))],7,[(0,.inst 0 1),(1,.ns [(5,.ref 2),(4,.ref 3),(3,.ref 4),(2,.ref 5),(0,.ref 6)]),(2,.kt 75),(3,.kt 76),(4,.kt 77),(5,.kt 78),(6,.kt 79)],[(2,.kt 85),(3,.kt 86),(4,.kt 87),(5,.kt 88),(6,.kt 89)],0,[2,3,4,5,6],.kd 12⟩,
 ⟨[.ref 0,(.tc (.int 2) (.tc (.int 43) (.tc .tn .tn)))],7,[(0,.inst 0 1),(1,.ns [(5,.ref 2),(4,.ref 3),(3,.ref 4),(2,.ref 5),(0,.ref 6)]),(2,.kt 55),(3,.kt 56),(4,.kt 57),(5,.kt 58),(6,.kt 59)],[],0,[],.kd 3⟩,
 ⟨[.ref 0,(.tc (.int 2) (.tc (.int 48) (.tc (.tc (.int 7) .tn) .tn)))],7,[(0,.inst 0 1),(1,.ns [(5,.ref 2),(4,.ref 3),(3,.ref 4),(2,.ref 5),(0,.ref 6)]),(2,.kt 70),(3,.kt 71),(4,.kt 72),(5,.kt 73),(6,.kt 74)],[(2,.kt 80),(3,.kt 81),(4,.kt 82),(5,.kt 83),(6,.kt 84)],0,[2,3,4,5,6],.kd 11⟩,
 ⟨[.ref 0,(.tc (.int 2) (.tc (.int 48) (.tc (.tc (.int 9) .tn) .tn)))],7,[(0,.inst 0 1),(1,.ns [(5,.ref 2),(4,.ref 3),(3,.ref 4),(2,.ref 5),(0,.ref 6)]),(2,.kt 80),(3,.kt 81),(4,.kt 82),(5,.kt 83),(6,.kt 84)],[(2,.kt 90),(3,.kt 91),(4,.kt 92),(5,.kt 93),(6,.kt 94)],0,[2,3,4,5,6],.kd 12⟩,
 ⟨[.ref 0,(.tc (.int 2) (.tc (.int 6) (.tc .tn .tn)))],7,[(0,.inst 0 1),(1,.ns [(5,.ref 2),(4,.ref 3),(3,.ref 4),(2,.ref 5),(0,.ref 6)]),(2,.kt 70),(3,.kt 71),(4,.kt 72),(5,.kt 73),(6,.kt 74)],[],0,[],.kd 2⟩,
 ⟨[.ref 0,(.tc (.int 6) (.tc (.int 0) .tn))],7,[(0,.inst 0 1),(1,.ns [(5,.ref 2),(4,.ref 3),(3,.ref 4),(2,.ref 5),(0,.ref 6)]),(2,.kt 70),(3,.kt 71),(4,.kt 72),(5,.kt 73),(6,.kt 74)],[],0,[],.kd 8⟩,
 ⟨[.ref 0,(.tc (.int 6) (.tc (.int 1) .tn))],7,[(0,.inst 0 1),(1,.ns [(5,.ref 2),(4,.ref 3),(3,.ref 4),(2,.ref 5),(0,.ref 6)]),(2,.kt 70),(3,.kt 71),(4,.kt 72),(5,.kt 73),(6,.kt 74)],[],0,[],.kd 9⟩,
 ⟨[.ref 0,(.tc (.int 4) (.tc (.kd 2) .tn))],7,[(0,.inst 0 1),(1,.ns [(5,.ref 2),(4,.ref 3),(3,.ref 4),(2,.ref 5),(0,.ref 6)]),(2,.kt 70),(3,.kt 71),(4,.kt 72),(5,.kt 73),(6,.kt 74)],[],0,[],.kd 5⟩,
 ⟨[.ref 0,(.tc (.int 6) (.tc (.int 2) .tn))],7,[(0,.inst 0 1),(1,.ns [(5,.ref 2),(4,.ref 3),(3,.ref 4),(2,.ref 5),(0,.ref 6)]),(2,.kt 70),(3,.kt 71),(4,.kt 72),(5,.kt 73),(6,.kt 74)],[],0,[],.kd 10⟩,
 ⟨[.ref 0,(.tc (.int 2) (.tc (.int 43) (.tc .tn .tn)))],7,[(0,.inst 0 1),(1,.ns [(5,.ref 2),(4,.ref 3),(3,.ref 4),(2,.ref 5),(0,.ref 6)]),(2,.kt 70),(3,.kt 71),(4,.kt 72),(5,.kt 73),(6,.kt 74)],[],0,[],.kd 3⟩,
 ⟨[.ref 0,(.tc (.int 2) (.tc (.int 50) (.tc .tn .tn)))],7,[(0,.inst 0 1),(1,.ns [(5,.ref 2),(4,.ref 3),(3,.ref 4),(2,.ref 5),(0,.ref 6)]),(2,.kt 85),(3,.kt 86),(4,.kt 87),(5,.kt 88),(6,.kt 89)],[],0,[],.kd 0⟩,
 ⟨[.ref 0,(.tc (.int 2) (.tc (.int 51) (.tc .tn .tn)))],7,[(0,.inst 0 1),(1,.ns [(5,.ref 2),(4,.ref 3),(3,.ref 4),(2,.ref 5),(0,.ref 6)]),(2,.kt 85),(3,.kt 86),(4,.kt 87),(5,.kt 88),(6,.kt 89)],[],0,[],.kd 1⟩,
 ⟨[.ref 0,(.tc (.int 2) (.tc (.int 50) (.tc .tn .tn)))],7,[(0,.inst 0 1),(1,.ns [(5,.ref 2),(4,.ref 3),(3,.ref 4),(2,.ref 5),(0,.ref 6)]),(2,.kt 90),(3,.kt 91),(4,.kt 92),(5,.kt 93),(6,.kt 94)],[],0,[],.kd 0⟩,
 ⟨[.ref 0,(.tc (.int 2) (.tc (.int 51) (.tc .tn .tn)))],7,[(0,.inst 0 1),(1,.ns [(5,.ref 2),(4,.ref 3),(3,.ref 4),(2,.ref 5),(0,.ref 6)]),(2,.kt 90),(3,.kt 91),(4,.kt 92),(5,.kt 93),(6,.kt 94)],[],0,[],.kd 1⟩,
 ⟨[.ref 0,(.tc (.int 2) (.tc (.int 48) (.tc (.tc (.int 7) .tn) .tn)))],7,[(0,.inst 0 1),(1,.ns [(5,.ref 2),(4,.ref 3),(3,.ref 4),(2,.ref 5),(0,.ref 6)]),(2,.kt 85),(3,.kt 86),(4,.kt 87),(5,.kt 88),(6,.kt 89)],[],0,[],.kd 8⟩,
 ⟨[.ref 0,(.tc (.int 2) (.tc (.int 48) (.tc (.tc (.int 9) .tn) .tn)))],7,[(0,.inst 0 1),(1,.ns [(5,.ref 2),(4,.ref 3),(3,.ref 4),(2,.ref 5),(0,.ref 6)]),(2,.kt 85),(3,.kt 86),(4,.kt 87),(5,.kt 88),(6,.kt 89)],[],0,[],.kd 9⟩,
 ⟨[.ref 0,(.tc (.int 2) (.tc (.int 6) (.tc .tn .tn)))],7,[(0,.inst 0 1),(1,.ns [(5,.ref 2),(4,.ref 3),(3,.ref 4),(2,.ref 5),(0,.ref 6)]),(2,.kt 85),(3,.kt 86),(4,.kt 87),(5,.kt 88),(6,.kt 89)],[],0,[],.kd 2⟩,
 ⟨[.ref 0,(.tc (.int 6) (.tc (.int 0) .tn))],7,[(0,.inst 0 1),(1,.ns [(5,.ref 2),(4,.ref 3),(3,.ref 4),(2,.ref 5),(0,.ref 6)]),(2,.kt 85),(3,.kt 86),(4,.kt 87),(5,.kt 88),(6,.kt 89)],[],0,[],.kd 10⟩,
 ⟨[.ref 0,(.tc (.int 6) (.tc (.int 1) .tn))],7,[(0,.inst 0 1),(1,.ns [(5,.ref 2),(4,.ref 3),(3,.ref 4),(2,.ref 5),(0,.ref 6)]),(2,.kt 85),(3,.kt 86),(4,.kt 87),(5,.kt 88),(6,.kt 89)],[],0,[],.kd 11⟩,
 ⟨[.ref 0,(.tc (.int 4) (.tc (.kd 2) .tn))],7,[(0,.inst 0 1),(1,.ns [(5,.ref 2),(4,.ref 3),(3,.ref 4),(2,.ref 5),(0,.ref 6)]),(2,.kt 85),(3,.kt 86),(4,.kt 87),(5,.kt 88),(6,.kt 89)],[],0,[],.kd 5⟩,
 ⟨[.ref 0,(.tc (.int 6) (.tc (.int 2) .tn))],7,[(0,.inst 0 1),(1,.ns [(5,.ref 2),(4,.ref 3),(3,.ref 4),(2,.ref 5),(0,.ref 6)]),(2,.kt 85),(3,.kt 86),(4,.kt 87),(5,.kt 88),(6,.kt 89)],[],0,[],.kd 12⟩,
 ⟨[.ref 0,(.tc (.int 2) (.tc (.int 43) (.tc .tn .tn)))],7,[(0,.inst 0 1),(1,.ns [(5,.ref 2),(4,.ref 3),(3,.ref 4),(2,.ref 5),(0,.ref 6)]),(2,.kt 85),(3,.kt 86),(4,.kt 87),(5,.kt 88),(6,.kt 89)],[],0,[],.kd 3⟩,
 ⟨[.ref 0,(.tc (.int 2) (.tc (.int 48) (.tc (.tc (.int 7) .tn) .tn)))],7,[(0,.inst 0 1),(1,.ns [(5,.ref 2),(4,.ref 3),(3,.ref 4),(2,.ref 5),(0,.ref 6)]),(2,.kt 90),(3,.kt 91),(4,.kt 92),(5,.kt 93),(6,.kt 94)],[],0,[],.kd 11⟩,
 ⟨[.ref 0,(.tc (.int 2) (.tc (.int 48) (.tc (.tc (.int 9) .tn) .tn)))],7,[(0,.inst 0 1),(1,.ns [(5,.ref 2),(4,.ref 3),(3,.ref 4),(2,.ref 5),(0,.ref 6)]),(2,.kt 90),(3,.kt 91),(4,.kt 92),(5,.kt 93),(6,.kt 94)],[],0,[],.kd 12⟩,
 ⟨[.ref 0,(.tc (.int 2) (.tc (.int 6) (.tc .tn .tn)))],7,[(0,.inst 0 1),(1,.ns [(5,.ref 2),(4,.ref 3),(3,.ref 4),(2,.ref 5),(0,.ref 6)]),(2,.kt 90),(3,.kt 91),(4,.kt 92),(5,.kt 93),(6,.kt 94)],[],0,[],.kd 2⟩,
 ⟨[.ref 0,(.tc (.int 6) (.tc (.int 0) .tn))],7,[(0,.inst 0 1),(1,.ns [(5,.ref 2),(4,.ref 3),(3,.ref 4),(2,.ref 5),(0,.ref 6)]),(2,.kt 90),(3,.kt 91),(4,.kt 92),(5,.kt 93),(6,.kt 94)],[],0,[],.kd 8⟩,
 ⟨[.ref 0,(.tc (.int 6) (.tc (.int 1) .tn))],7,[(0,.inst 0 1),(1,.ns [(5,.ref 2),(4,.ref 3),(3,.ref 4),(2,.ref 5),(0,.ref 6)]),(2,.kt 90),(3,.kt 91),(4,.kt 92),(5,.kt 93),(6,.kt 94)],[],0,[],.kd 9⟩,
 ⟨[.ref 0,(.tc (.int 4) (.tc (.kd 2) .tn))],7,[(0,.inst 0 1),(1,.ns [(5,.ref 2),(4,.ref 3),(3,.ref 4),(2,.ref 5),(0,.ref 6)]),(2,.kt 90),(3,.kt 91),(4,.kt 92),(5,.kt 93),(6,.kt 94)],[],0,[],.kd 5⟩,
 ⟨[.ref 0,(.tc (.int 6) (.tc (.int 2) .tn))],7,[(0,.inst 0 1),(1,.ns [(5,.ref 2),(4,.ref 3),(3,.ref 4),(2,.ref 5),(0,.ref 6)]),(2,.kt 90),(3,.kt 91),(4,.kt 92),(5,.kt 93),(6,.kt 94)],[],0,[],.kd 10⟩,
 ⟨[.ref 0,(.tc (.int 2) (.tc (.int 43) (.tc .tn .tn)))],7,[(0,.inst 0 1),(1,.ns [(5,.ref 2),(4,.ref 3),(3,.ref 4),(2,.ref 5),(0,.ref 6)]),(2,.kt 90),(3,.kt 91),(4,.kt 92),(5,.kt 93),(6,.kt 94)],[],0,[],.kd 3⟩]
noncomputable def putFn:Nat:=2
noncomputable def putB (sh:Nat):Bool:=allB (fun c=>b3 c.ok2 (runB c (unV (kaF sh)) (unO (kaF sh) (ktG sh)) [] (callF 14) putFn []) true) putL
theorem put_0:putB 0=true:=by kernel_rfl
theorem put_1:putB 1=true:=by kernel_rfl
theorem put_2:putB 2=true:=by kernel_rfl
theorem put_3:putB 3=true:=by kernel_rfl
end
end Mine
namespace Mine
noncomputable section
noncomputable def cb63b:Ct:=⟨[.ref 0,.int 63],11,((0,.dict [(.str 94,.ref 1),(.str 93,.ref 2),(.str 18,.bad),(.str 92,.bad),(.str 91,.bad),(.str 90,.bad),(.str 101,.bad),(.str 99,.bad),(.str 100,.bad)])::((1,.inst 5 3)::((2,.dict [(.int 1,.bad),(.int 2,.bad),(.int 62,T [.kd 2,.int 1,.int 1,T [.kd 2,.kd 2]]),(.int 63,T [.kd 2,.int 1,.int 1,T [.kd 2,.kd 2]]),(.int 103,.bad),(.int 104,.bad),(.int 185,.bad),(.int 187,.bad),(.int 195,.bad),(.int 197,.bad),(.int 198,.bad),(.int 199,.bad),(.int 200,.bad),(.int 201,.bad),(.int 204,.bad),(.int 205,.bad),(.int 211,.bad),(.int 212,.bad)])::(sn 3 (.bad) (.bad) (.bad) (.ref 4) ((4,lsP 256 [(63,.ref 5)])::((5,.inst 3 6)::((6,.ns [(41,.bad),(31,.int 6),(26,.bad),(29,.bad),(24,.bad),(40,.bad),(39,.bad),(38,.bad),(37,.bad),(21,.bad),(36,.bad),(35,.bad),(34,.ref 7),(33,.int 0)])::((7,.inst 4 8)::((8,.ns [(45,.tn),(44,.int 2),(43,.ref 9),(42,.ref 10)])::((9,.kt 1010)::((10,mkL [])::[]))))))))))),[],0,[],.bool true⟩
noncomputable def cb103b:Ct:=⟨[.ref 0,.int 103],12,((0,.dict [(.str 94,.ref 1),(.str 93,.ref 2),(.str 18,.bad),(.str 92,.ref 3),(.str 91,.bad),(.str 90,.bad),(.str 101,.bad),(.str 99,.bad),(.str 100,.bad)])::((1,.inst 5 4)::((2,.dict [(.int 1,.bad),(.int 2,.bad),(.int 62,.bad),(.int 63,.bad),(.int 103,T [.int 7,.int 0,.int 7,T [.int 7]]),(.int 104,.bad),(.int 185,.bad),(.int 187,.bad),(.int 195,.bad),(.int 197,.bad),(.int 198,.bad),(.int 199,.bad),(.int 200,.bad),(.int 201,.bad),(.int 204,.bad),(.int 205,.bad),(.int 211,.bad),(.int 212,.bad)])::((3,.dict [(.int 15,.kd 6),(.int 17,.bad),(.int 50,.bad),(.int 51,.bad)])::(sn 4 (.bad) (.bad) (.bad) (.ref 5) ((5,lsP 256 [(103,.ref 6)])::((6,.inst 3 7)::((7,.ns [(41,.bad),(31,.int 15),(26,.bad),(29,.bad),(24,.bad),(40,.bad),(39,.bad),(38,.bad),(37,.bad),(21,.bad),(36,.bad),(35,.bad),(34,.ref 8),(33,.int 0)])::((8,.inst 4 9)::((9,.ns [(45,.tn),(44,.int 3),(43,.ref 10),(42,.ref 11)])::((10,.kt 1000)::((11,mkL [])::[])))))))))))),[],0,[],.bool true⟩
noncomputable def cb104b:Ct:=⟨[.ref 0,.int 104],12,((0,.dict [(.str 94,.ref 1),(.str 93,.ref 2),(.str 18,.bad),(.str 92,.ref 3),(.str 91,.bad),(.str 90,.bad),(.str 101,.bad),(.str 99,.bad),(.str 100,.bad)])::((1,.inst 5 4)::((2,.dict [(.int 1,.bad),(.int 2,.bad),(.int 62,.bad),(.int 63,.bad),(.int 103,.bad),(.int 104,T [.int 9,.int 0,.int 7,T [.int 9]]),(.int 185,.bad),(.int 187,.bad),(.int 195,.bad),(.int 197,.bad),(.int 198,.bad),(.int 199,.bad),(.int 200,.bad),(.int 201,.bad),(.int 204,.bad),(.int 205,.bad),(.int 211,.bad),(.int 212,.bad)])::((3,.dict [(.int 15,.bad),(.int 17,.kd 7),(.int 50,.bad),(.int 51,.bad)])::(sn 4 (.bad) (.bad) (.bad) (.ref 5) ((5,lsP 256 [(104,.ref 6)])::((6,.inst 3 7)::((7,.ns [(41,.bad),(31,.int 17),(26,.bad),(29,.bad),(24,.bad),(40,.bad),(39,.bad),(38,.bad),(37,.bad),(21,.bad),(36,.bad),(35,.bad),(34,.ref 8),(33,.int 0)])::((8,.inst 4 9)::((9,.ns [(45,.tn),(44,.int 3),(43,.ref 10),(42,.ref 11)])::((10,.kt 1001)::((11,mkL [])::[])))))))))))),[],0,[],.bool true⟩
noncomputable def cb187b:Ct:=⟨[.ref 0,.int 187],11,((0,.dict [(.str 94,.ref 1),(.str 93,.ref 2),(.str 18,.bad),(.str 92,.bad),(.str 91,.bad),(.str 90,T [.int 12,.int 13,.int 14,.kd 0,.kd 1,.kd 2]),(.str 101,.bad),(.str 99,.bad),(.str 100,.bad)])::((1,.inst 5 3)::((2,.dict [(.int 1,.bad),(.int 2,T [.int 12,.int 0,.int 13,.tn]),(.int 62,.bad),(.int 63,.bad),(.int 103,.bad),(.int 104,.bad),(.int 185,T [.kd 3,.int 1,.int 0,T [.int 13]]),(.int 187,T [.kd 3,.int 1,.int 0,T [.int 12]]),(.int 195,.bad),(.int 197,.bad),(.int 198,.bad),(.int 199,.bad),(.int 200,.bad),(.int 201,.bad),(.int 204,.bad),(.int 205,.bad),(.int 211,.bad),(.int 212,.bad)])::(sn 3 (.bad) (.bad) (.bad) (.ref 4) ((4,lsP 256 [(187,.ref 5)])::((5,.inst 3 6)::((6,.ns [(41,.bad),(31,.int 43),(26,.bad),(29,.bad),(24,.bad),(40,.bad),(39,.bad),(38,.bad),(37,.bad),(21,.bad),(36,.bad),(35,.bad),(34,.ref 7),(33,.int 0)])::((7,.inst 4 8)::((8,.ns [(45,.tn),(44,.int 1),(43,.ref 9),(42,.ref 10)])::((9,.kt 1011)::((10,mkL [])::[]))))))))))),[],0,[],.bool true⟩
noncomputable def cb195b:Ct:=⟨[.ref 0,.int 195],11,((0,.dict [(.str 94,.ref 1),(.str 93,.ref 2),(.str 18,.bad),(.str 92,.bad),(.str 91,.bad),(.str 90,.bad),(.str 101,.bad),(.str 99,.bad),(.str 100,.bad)])::((1,.inst 5 3)::((2,.dict [(.int 1,.bad),(.int 2,.bad),(.int 62,.bad),(.int 63,.bad),(.int 103,.bad),(.int 104,.bad),(.int 185,.bad),(.int 187,.bad),(.int 195,T [.kd 4,.int 1,.int 0,T [.int 12]]),(.int 197,.bad),(.int 198,.bad),(.int 199,.bad),(.int 200,.bad),(.int 201,.bad),(.int 204,.bad),(.int 205,.bad),(.int 211,.bad),(.int 212,.bad)])::(sn 3 (.bad) (.bad) (.bad) (.ref 4) ((4,lsP 256 [(195,.ref 5)])::((5,.inst 3 6)::((6,.ns [(41,.bad),(31,.int 49),(26,.bad),(29,.bad),(24,.bad),(40,.bad),(39,.bad),(38,.bad),(37,.bad),(21,.bad),(36,.bad),(35,.bad),(34,.ref 7),(33,.int 0)])::((7,.inst 4 8)::((8,.ns [(45,.tn),(44,.int 0),(43,.ref 9),(42,.ref 10)])::((9,.kt 1002)::((10,mkL [])::[]))))))))))),[],0,[],.bool true⟩
noncomputable def cb197b:Ct:=⟨[.ref 0,.int 197],12,((0,.dict [(.str 94,.ref 1),(.str 93,.ref 2),(.str 18,.ref 3),(.str 92,.bad),(.str 91,.kd 0),(.str 90,.bad),(.str 101,.bad),(.str 99,.bad),(.str 100,.bad)])::((1,.inst 5 4)::((2,.dict [(.int 1,T [.int 12,.int 0,.int 0,.tn]),(.int 2,.bad),(.int 62,.bad),(.int 63,.bad),(.int 103,.bad),(.int 104,.bad),(.int 185,.bad),(.int 187,.bad),(.int 195,.bad),(.int 197,T [.kd 0,.int 0,.int 0,T [.int 12,.int 1]]),(.int 198,.bad),(.int 199,.bad),(.int 200,.bad),(.int 201,.bad),(.int 204,T [.kd 0,.int 1,.int 7,T [.int 12,.int 1]]),(.int 205,.bad),(.int 211,.bad),(.int 212,.bad)])::((3,.dict [(.int 3,.bad),(.int 4,.bad),(.int 5,.bad),(.int 18,T [.int 50,.kd 0,.int 7]),(.int 19,.bad)])::(sn 4 (.bad) (.bad) (.bad) (.ref 5) ((5,lsP 256 [(197,.ref 6)])::((6,.inst 3 7)::((7,.ns [(41,.bad),(31,.int 50),(26,.bad),(29,.bad),(24,.bad),(40,.bad),(39,.bad),(38,.bad),(37,.bad),(21,.bad),(36,.bad),(35,.bad),(34,.ref 8),(33,.int 0)])::((8,.inst 4 9)::((9,.ns [(45,.tn),(44,.int 3),(43,.ref 10),(42,.ref 11)])::((10,.kt 1003)::((11,mkL [])::[])))))))))))),[],0,[],.bool true⟩
noncomputable def cb198b:Ct:=⟨[.ref 0,.int 198],13,((0,.dict [(.str 94,.ref 1),(.str 93,.ref 2),(.str 18,.ref 3),(.str 92,.ref 4),(.str 91,.bad),(.str 90,.bad),(.str 101,.bad),(.str 99,.bad),(.str 100,.bad)])::((1,.inst 5 5)::((2,.dict [(.int 1,.bad),(.int 2,.bad),(.int 62,.bad),(.int 63,.bad),(.int 103,.bad),(.int 104,.bad),(.int 185,.bad),(.int 187,.bad),(.int 195,.bad),(.int 197,.bad),(.int 198,T [.kd 0,.int 0,.int 12,.tn]),(.int 199,.bad),(.int 200,.bad),(.int 201,.bad),(.int 204,.bad),(.int 205,T [.kd 0,.int 1,.int 12,T [.int 7]]),(.int 211,.bad),(.int 212,.bad)])::((3,.dict [(.int 3,.bad),(.int 4,.bad),(.int 5,.bad),(.int 18,T [.int 50,.kd 0,.int 7]),(.int 19,.bad)])::((4,.dict [(.int 15,.bad),(.int 17,.bad),(.int 50,.kd 0),(.int 51,.bad)])::(sn 5 (.bad) (.bad) (.bad) (.ref 6) ((6,lsP 256 [(198,.ref 7)])::((7,.inst 3 8)::((8,.ns [(41,.bad),(31,.int 50),(26,.bad),(29,.bad),(24,.bad),(40,.bad),(39,.bad),(38,.bad),(37,.bad),(21,.bad),(36,.bad),(35,.bad),(34,.ref 9),(33,.int 0)])::((9,.inst 4 10)::((10,.ns [(45,.tn),(44,.int 1),(43,.ref 11),(42,.ref 12)])::((11,.kt 1004)::((12,mkL [])::[]))))))))))))),[],0,[],.bool true⟩
noncomputable def cb199b:Ct:=⟨[.ref 0,.int 199],13,((0,.dict [(.str 94,.ref 1),(.str 93,.ref 2),(.str 18,.ref 3),(.str 92,.ref 4),(.str 91,.bad),(.str 90,T [.int 12,.int 13,.int 14,.kd 0,.kd 1,.kd 2]),(.str 101,.bad),(.str 99,.bad),(.str 100,.bad)])::((1,.inst 5 5)::((2,.dict [(.int 1,.bad),(.int 2,.bad),(.int 62,.bad),(.int 63,.bad),(.int 103,.bad),(.int 104,.bad),(.int 185,.bad),(.int 187,.bad),(.int 195,.bad),(.int 197,.bad),(.int 198,.bad),(.int 199,T [.kd 0,.int 0,.int 1,.tn]),(.int 200,.bad),(.int 201,.bad),(.int 204,.bad),(.int 205,T [.kd 0,.int 1,.int 12,T [.int 7]]),(.int 211,.bad),(.int 212,.bad)])::((3,.dict [(.int 3,.bad),(.int 4,.bad),(.int 5,.bad),(.int 18,T [.int 50,.kd 0,.int 7]),(.int 19,.bad)])::((4,.dict [(.int 15,.bad),(.int 17,.bad),(.int 50,.kd 0),(.int 51,.bad)])::(sn 5 (.bad) (.bad) (.bad) (.ref 6) ((6,lsP 256 [(199,.ref 7)])::((7,.inst 3 8)::((8,.ns [(41,.bad),(31,.int 50),(26,.bad),(29,.bad),(24,.bad),(40,.bad),(39,.bad),(38,.bad),(37,.bad),(21,.bad),(36,.bad),(35,.bad),(34,.ref 9),(33,.int 0)])::((9,.inst 4 10)::((10,.ns [(45,.tn),(44,.int 2),(43,.ref 11),(42,.ref 12)])::((11,.kt 1005)::((12,mkL [])::[]))))))))))))),[],0,[],.bool true⟩
noncomputable def cb200b:Ct:=⟨[.ref 0,.int 200],12,((0,.dict [(.str 94,.ref 1),(.str 93,.ref 2),(.str 18,.ref 3),(.str 92,.bad),(.str 91,.bad),(.str 90,T [.int 12,.int 13,.int 14,.kd 0,.kd 1,.kd 2]),(.str 101,.bad),(.str 99,.bad),(.str 100,.bad)])::((1,.inst 5 4)::((2,.dict [(.int 1,.bad),(.int 2,.bad),(.int 62,.bad),(.int 63,.bad),(.int 103,.bad),(.int 104,.bad),(.int 185,.bad),(.int 187,.bad),(.int 195,.bad),(.int 197,.bad),(.int 198,.bad),(.int 199,.bad),(.int 200,T [.kd 1,.int 1,.int 1,T [.kd 1,.kd 1]]),(.int 201,.bad),(.int 204,.bad),(.int 205,.bad),(.int 211,.bad),(.int 212,.bad)])::((3,.dict [(.int 3,.bad),(.int 4,.bad),(.int 5,.bad),(.int 18,.bad),(.int 19,T [.int 51,.kd 1,.int 7])])::(sn 4 (.bad) (.bad) (.bad) (.ref 5) ((5,lsP 256 [(200,.ref 6)])::((6,.inst 3 7)::((7,.ns [(41,.bad),(31,.int 51),(26,.bad),(29,.bad),(24,.bad),(40,.bad),(39,.bad),(38,.bad),(37,.bad),(21,.bad),(36,.bad),(35,.bad),(34,.ref 8),(33,.int 0)])::((8,.inst 4 9)::((9,.ns [(45,.tn),(44,.int 2),(43,.ref 10),(42,.ref 11)])::((10,.kt 1006)::((11,mkL [])::[])))))))))))),[],0,[],.bool true⟩
noncomputable def cb201b:Ct:=⟨[.ref 0,.int 201],11,((0,.dict [(.str 94,.ref 1),(.str 93,.ref 2),(.str 18,.bad),(.str 92,.bad),(.str 91,.bad),(.str 90,.bad),(.str 101,.bad),(.str 99,.bad),(.str 100,.bad)])::((1,.inst 5 3)::((2,.dict [(.int 1,.bad),(.int 2,.bad),(.int 62,.bad),(.int 63,.bad),(.int 103,.bad),(.int 104,.bad),(.int 185,.bad),(.int 187,.bad),(.int 195,.bad),(.int 197,.bad),(.int 198,.bad),(.int 199,.bad),(.int 200,T [.kd 1,.int 1,.int 1,T [.kd 1,.kd 1]]),(.int 201,T [.kd 1,.int 1,.int 1,T [.kd 1,.kd 1]]),(.int 204,.bad),(.int 205,.bad),(.int 211,.bad),(.int 212,.bad)])::(sn 3 (.bad) (.bad) (.bad) (.ref 4) ((4,lsP 256 [(201,.ref 5)])::((5,.inst 3 6)::((6,.ns [(41,.bad),(31,.int 51),(26,.bad),(29,.bad),(24,.bad),(40,.bad),(39,.bad),(38,.bad),(37,.bad),(21,.bad),(36,.bad),(35,.bad),(34,.ref 7),(33,.int 0)])::((7,.inst 4 8)::((8,.ns [(45,.tn),(44,.int 2),(43,.ref 9),(42,.ref 10)])::((9,.kt 1007)::((10,mkL [])::[]))))))))))),[],0,[],.bool true⟩
noncomputable def cb211b:Ct:=⟨[.ref 0,.int 211],12,((0,.dict [(.str 94,.ref 1),(.str 93,.ref 2),(.str 18,.bad),(.str 92,.ref 3),(.str 91,.bad),(.str 90,T [.int 12,.int 13,.int 14,.kd 0,.kd 1,.kd 2]),(.str 101,.bad),(.str 99,.bad),(.str 100,.bad)])::((1,.inst 5 4)::((2,.dict [(.int 1,.bad),(.int 2,.bad),(.int 62,.bad),(.int 63,.bad),(.int 103,.bad),(.int 104,.bad),(.int 185,.bad),(.int 187,.bad),(.int 195,.bad),(.int 197,.bad),(.int 198,.bad),(.int 199,.bad),(.int 200,T [.kd 1,.int 1,.int 1,T [.kd 1,.kd 1]]),(.int 201,.bad),(.int 204,.bad),(.int 205,.bad),(.int 211,T [.kd 1,.int 0,.int 1,T [.int 12]]),(.int 212,.bad)])::((3,.dict [(.int 15,.bad),(.int 17,.bad),(.int 50,.bad),(.int 51,.kd 1)])::(sn 4 (.bad) (.bad) (.bad) (.ref 5) ((5,lsP 256 [(211,.ref 6)])::((6,.inst 3 7)::((7,.ns [(41,.bad),(31,.int 51),(26,.bad),(29,.bad),(24,.bad),(40,.bad),(39,.bad),(38,.bad),(37,.bad),(21,.bad),(36,.bad),(35,.bad),(34,.ref 8),(33,.int 0)])::((8,.inst 4 9)::((9,.ns [(45,.tn),(44,.int 2),(43,.ref 10),(42,.ref 11)])::((10,.kt 1008)::((11,mkL [])::[])))))))))))),[],0,[],.bool true⟩
noncomputable def cb212b:Ct:=⟨[.ref 0,.int 212],13,((0,.dict [(.str 94,.ref 1),(.str 93,.ref 2),(.str 18,.ref 3),(.str 92,.ref 4),(.str 91,.bad),(.str 90,.bad),(.str 101,.bad),(.str 99,.bad),(.str 100,.bad)])::((1,.inst 5 5)::((2,.dict [(.int 1,.bad),(.int 2,.bad),(.int 62,.bad),(.int 63,.bad),(.int 103,.bad),(.int 104,.bad),(.int 185,.bad),(.int 187,.bad),(.int 195,.bad),(.int 197,.bad),(.int 198,.bad),(.int 199,.bad),(.int 200,.bad),(.int 201,.bad),(.int 204,.bad),(.int 205,.bad),(.int 211,.bad),(.int 212,T [.kd 1,.int 0,.int 7,.tn])])::((3,.dict [(.int 3,.bad),(.int 4,.bad),(.int 5,.bad),(.int 18,.bad),(.int 19,T [.int 51,.kd 1,.int 7])])::((4,.dict [(.int 15,.bad),(.int 17,.bad),(.int 50,.bad),(.int 51,.kd 1)])::(sn 5 (.bad) (.bad) (.bad) (.ref 6) ((6,lsP 256 [(212,.ref 7)])::((7,.inst 3 8)::((8,.ns [(41,.bad),(31,.int 51),(26,.bad),(29,.bad),(24,.bad),(40,.bad),(39,.bad),(38,.bad),(37,.bad),(21,.bad),(36,.bad),(35,.bad),(34,.ref 9),(33,.int 0)])::((9,.inst 4 10)::((10,.ns [(45,.tn),(44,.int 1),(43,.ref 11),(42,.ref 12)])::((11,.kt 1009)::((12,mkL [])::[]))))))))))))),[],0,[],.bool true⟩
noncomputable def cb63a:Ct:=⟨[.ref 0,.int 63],11,((0,.dict [(.str 94,.ref 1),(.str 93,.ref 2),(.str 18,.bad),(.str 92,.bad),(.str 91,.bad),(.str 90,.bad)])::((1,.inst 5 3)::((2,.dict [(.int 1,.bad),(.int 2,.bad),(.int 62,T [.kd 2,.int 1,.int 1,T [.kd 2,.kd 2]]),(.int 63,T [.kd 2,.int 1,.int 1,T [.kd 2,.kd 2]]),(.int 103,.bad),(.int 104,.bad),(.int 185,.bad),(.int 187,.bad),(.int 195,.bad),(.int 197,.bad),(.int 198,.bad),(.int 199,.bad),(.int 200,.bad),(.int 201,.bad),(.int 204,.bad),(.int 205,.bad),(.int 211,.bad),(.int 212,.bad)])::(sn 3 (.bad) (.bad) (.bad) (.ref 4) ((4,lsP 256 [(63,.ref 5)])::((5,.inst 3 6)::((6,.ns [(41,.bad),(31,.int 6),(26,.bad),(29,.bad),(24,.bad),(40,.bad),(39,.bad),(38,.bad),(37,.bad),(21,.bad),(36,.bad),(35,.bad),(34,.ref 7),(33,.int 0)])::((7,.inst 4 8)::((8,.ns [(45,.tn),(44,.int 2),(43,.ref 9),(42,.ref 10)])::((9,.kt 1010)::((10,mkL [])::[]))))))))))),[],0,[],.bool true⟩
noncomputable def cb103a:Ct:=⟨[.ref 0,.int 103],12,((0,.dict [(.str 94,.ref 1),(.str 93,.ref 2),(.str 18,.bad),(.str 92,.ref 3),(.str 91,.bad),(.str 90,.bad)])::((1,.inst 5 4)::((2,.dict [(.int 1,.bad),(.int 2,.bad),(.int 62,.bad),(.int 63,.bad),(.int 103,T [.int 7,.int 0,.int 7,T [.int 7]]),(.int 104,.bad),(.int 185,.bad),(.int 187,.bad),(.int 195,.bad),(.int 197,.bad),(.int 198,.bad),(.int 199,.bad),(.int 200,.bad),(.int 201,.bad),(.int 204,.bad),(.int 205,.bad),(.int 211,.bad),(.int 212,.bad)])::((3,.dict [(.int 15,.kd 6),(.int 17,.bad),(.int 50,.bad),(.int 51,.bad)])::(sn 4 (.bad) (.bad) (.bad) (.ref 5) ((5,lsP 256 [(103,.ref 6)])::((6,.inst 3 7)::((7,.ns [(41,.bad),(31,.int 15),(26,.bad),(29,.bad),(24,.bad),(40,.bad),(39,.bad),(38,.bad),(37,.bad),(21,.bad),(36,.bad),(35,.bad),(34,.ref 8),(33,.int 0)])::((8,.inst 4 9)::((9,.ns [(45,.tn),(44,.int 3),(43,.ref 10),(42,.ref 11)])::((10,.kt 1000)::((11,mkL [])::[])))))))))))),[],0,[],.bool true⟩
noncomputable def cb187a:Ct:=⟨[.ref 0,.int 187],11,((0,.dict [(.str 94,.ref 1),(.str 93,.ref 2),(.str 18,.bad),(.str 92,.bad),(.str 91,.bad),(.str 90,T [.int 12,.int 13,.int 14,.kd 0,.kd 1,.kd 2])])::((1,.inst 5 3)::((2,.dict [(.int 1,.bad),(.int 2,T [.int 12,.int 0,.int 13,.tn]),(.int 62,.bad),(.int 63,.bad),(.int 103,.bad),(.int 104,.bad),(.int 185,T [.kd 3,.int 1,.int 0,T [.int 13]]),(.int 187,T [.kd 3,.int 1,.int 0,T [.int 12]]),(.int 195,.bad),(.int 197,.bad),(.int 198,.bad),(.int 199,.bad),(.int 200,.bad),(.int 201,.bad),(.int 204,.bad),(.int 205,.bad),(.int 211,.bad),(.int 212,.bad)])::(sn 3 (.bad) (.bad) (.bad) (.ref 4) ((4,lsP 256 [(187,.ref 5)])::((5,.inst 3 6)::((6,.ns [(41,.bad),(31,.int 43),(26,.bad),(29,.bad),(24,.bad),(40,.bad),(39,.bad),(38,.bad),(37,.bad),(21,.bad),(36,.bad),(35,.bad),(34,.ref 7),(33,.int 0)])::((7,.inst 4 8)::((8,.ns [(45,.tn),(44,.int 1),(43,.ref 9),(42,.ref 10)])::((9,.kt 1011)::((10,mkL [])::[]))))))))))),[],0,[],.bool true⟩
noncomputable def cb195a:Ct:=⟨[.ref 0,.int 195],11,((0,.dict [(.str 94,.ref 1),(.str 93,.ref 2),(.str 18,.bad),(.str 92,.bad),(.str 91,.bad),(.str 90,.bad)])::((1,.inst 5 3)::((2,.dict [(.int 1,.bad),(.int 2,.bad),(.int 62,.bad),(.int 63,.bad),(.int 103,.bad),(.int 104,.bad),(.int 185,.bad),(.int 187,.bad),(.int 195,T [.kd 4,.int 1,.int 0,T [.int 12]]),(.int 197,.bad),(.int 198,.bad),(.int 199,.bad),(.int 200,.bad),(.int 201,.bad),(.int 204,.bad),(.int 205,.bad),(.int 211,.bad),(.int 212,.bad)])::(sn 3 (.bad) (.bad) (.bad) (.ref 4) ((4,lsP 256 [(195,.ref 5)])::((5,.inst 3 6)::((6,.ns [(41,.bad),(31,.int 49),(26,.bad),(29,.bad),(24,.bad),(40,.bad),(39,.bad),(38,.bad),(37,.bad),(21,.bad),(36,.bad),(35,.bad),(34,.ref 7),(33,.int 0)])::((7,.inst 4 8)::((8,.ns [(45,.tn),(44,.int 0),(43,.ref 9),(42,.ref 10)])::((9,.kt 1002)::((10,mkL [])::[]))))))))))),[],0,[],.bool true⟩
noncomputable def cb200a:Ct:=⟨[.ref 0,.int 200],12,((0,.dict [(.str 94,.ref 1),(.str 93,.ref 2),(.str 18,.ref 3),(.str 92,.bad),(.str 91,.bad),(.str 90,T [.int 12,.int 13,.int 14,.kd 0,.kd 1,.kd 2])])::((1,.inst 5 4)::((2,.dict [(.int 1,.bad),(.int 2,.bad),(.int 62,.bad),(.int 63,.bad),(.int 103,.bad),(.int 104,.bad),(.int 185,.bad),(.int 187,.bad),(.int 195,.bad),(.int 197,.bad),(.int 198,.bad),(.int 199,.bad),(.int 200,T [.kd 1,.int 1,.int 1,T [.kd 1,.kd 1]]),(.int 201,.bad),(.int 204,.bad),(.int 205,.bad),(.int 211,.bad),(.int 212,.bad)])::((3,.dict [(.int 3,.bad),(.int 4,.bad),(.int 5,.bad),(.int 18,.bad),(.int 19,T [.int 51,.kd 1,.int 7])])::(sn 4 (.bad) (.bad) (.bad) (.ref 5) ((5,lsP 256 [(200,.ref 6)])::((6,.inst 3 7)::((7,.ns [(41,.bad),(31,.int 51),(26,.bad),(29,.bad),(24,.bad),(40,.bad),(39,.bad),(38,.bad),(37,.bad),(21,.bad),(36,.bad),(35,.bad),(34,.ref 8),(33,.int 0)])::((8,.inst 4 9)::((9,.ns [(45,.tn),(44,.int 2),(43,.ref 10),(42,.ref 11)])::((10,.kt 1006)::((11,mkL [])::[])))))))))))),[],0,[],.bool true⟩
noncomputable def cd63b:Ct:=⟨[.ref 0,.int 63,.si (.n 0 5)],12,((0,.dict [(.str 94,.ref 1),(.str 93,.ref 2),(.str 18,.ref 3),(.str 92,.ref 4),(.str 91,.kd 0),(.str 90,T [.int 12,.int 13,.int 14,.kd 0,.kd 1,.kd 2]),(.str 101,.bad),(.str 99,.bad),(.str 100,.bad)])::((1,.inst 5 5)::(sn 5 (.bad) (.bad) (.bad) (.ref 6) ((6,lsP 256 [(63,.ref 7)])::((7,.inst 3 8)::((8,.ns [(41,.bad),(31,.bad),(26,.bad),(29,.bad),(24,.bad),(40,.bad),(39,.bad),(38,.bad),(37,.bad),(21,.bad),(36,.bad),(35,.bad),(34,.ref 9),(33,.bad)])::((9,.inst 4 10)::((10,.ns [(45,.bad),(44,.bad),(43,.ref 11),(42,.bad)])::((11,.kt 1010)::[]))))))))),((0,.dict [(.str 94,.ref 1),(.str 93,.ref 2),(.str 18,.ref 3),(.str 92,.ref 4),(.str 91,.kd 0),(.str 90,T [.int 12,.int 13,.int 14,.kd 0,.kd 1,.kd 2]),(.str 101,.bad),(.str 99,.bad),(.str 100,.bad)])::[]),0,[0],.bool true⟩
noncomputable def cd103b:Ct:=⟨[.ref 0,.int 103,.si (.n 0 5)],12,((0,.dict [(.str 94,.ref 1),(.str 93,.ref 2),(.str 18,.ref 3),(.str 92,.ref 4),(.str 91,.kd 0),(.str 90,T [.int 12,.int 13,.int 14,.kd 0,.kd 1,.kd 2]),(.str 101,.bad),(.str 99,.bad),(.str 100,.bad)])::((1,.inst 5 5)::(sn 5 (.bad) (.bad) (.bad) (.ref 6) ((6,lsP 256 [(103,.ref 7)])::((7,.inst 3 8)::((8,.ns [(41,.bad),(31,.bad),(26,.bad),(29,.bad),(24,.bad),(40,.bad),(39,.bad),(38,.bad),(37,.bad),(21,.bad),(36,.bad),(35,.bad),(34,.ref 9),(33,.bad)])::((9,.inst 4 10)::((10,.ns [(45,.bad),(44,.bad),(43,.ref 11),(42,.bad)])::((11,.kt 1000)::[]))))))))),((0,.dict [(.str 94,.ref 1),(.str 93,.ref 2),(.str 18,.ref 3),(.str 92,.ref 4),(.str 91,.kd 0),(.str 90,T [.int 12,.int 13,.int 14,.kd 0,.kd 1,.kd 2]),(.str 101,.bad),(.str 99,.bad),(.str 100,.bad)])::[]),0,[0],.bool true⟩
noncomputable def cd104b:Ct:=⟨[.ref 0,.int 104,.si (.n 0 5)],12,((0,.dict [(.str 94,.ref 1),(.str 93,.ref 2),(.str 18,.ref 3),(.str 92,.ref 4),(.str 91,.kd 0),(.str 90,T [.int 12,.int 13,.int 14,.kd 0,.kd 1,.kd 2]),(.str 101,.bad),(.str 99,.bad),(.str 100,.bad)])::((1,.inst 5 5)::(sn 5 (.bad) (.bad) (.bad) (.ref 6) ((6,lsP 256 [(104,.ref 7)])::((7,.inst 3 8)::((8,.ns [(41,.bad),(31,.bad),(26,.bad),(29,.bad),(24,.bad),(40,.bad),(39,.bad),(38,.bad),(37,.bad),(21,.bad),(36,.bad),(35,.bad),(34,.ref 9),(33,.bad)])::((9,.inst 4 10)::((10,.ns [(45,.bad),(44,.bad),(43,.ref 11),(42,.bad)])::((11,.kt 1001)::[]))))))))),((0,.dict [(.str 94,.ref 1),(.str 93,.ref 2),(.str 18,.ref 3),(.str 92,.ref 4),(.str 91,.kd 0),(.str 90,T [.int 12,.int 13,.int 14,.kd 0,.kd 1,.kd 2]),(.str 101,.bad),(.str 99,.bad),(.str 100,.bad)])::[]),0,[0],.bool true⟩
noncomputable def cd187b:Ct:=⟨[.ref 0,.int 187,.si (.n 0 5)],12,((0,.dict [(.str 94,.ref 1),(.str 93,.ref 2),(.str 18,.ref 3),(.str 92,.ref 4),(.str 91,.kd 0),(.str 90,T [.int 12,.int 13,.int 14,.kd 0,.kd 1,.kd 2]),(.str 101,.bad),(.str 99,.bad),(.str 100,.bad)])::((1,.inst 5 5)::(sn 5 (.bad) (.bad) (.bad) (.ref 6) ((6,lsP 256 [(187,.ref 7)])::((7,.inst 3 8)::((8,.ns [(41,.bad),(31,.bad),(26,.bad),(29,.bad),(24,.bad),(40,.bad),(39,.bad),(38,.bad),(37,.bad),(21,.bad),(36,.bad),(35,.bad),(34,.ref 9),(33,.bad)])::((9,.inst 4 10)::((10,.ns [(45,.bad),(44,.bad),(43,.ref 11),(42,.bad)])::((11,.kt 1011)::[]))))))))),((0,.dict [(.str 94,.ref 1),(.str 93,.ref 2),(.str 18,.ref 3),(.str 92,.ref 4),(.str 91,.kd 0),(.str 90,T [.int 12,.int 13,.int 14,.kd 0,.kd 1,.kd 2]),(.str 101,.bad),(.str 99,.bad),(.str 100,.bad)])::[]),0,[0],.bool true⟩
noncomputable def cd195b:Ct:=⟨[.ref 0,.int 195,.si (.n 0 5)],12,((0,.dict [(.str 94,.ref 1),(.str 93,.ref 2),(.str 18,.ref 3),(.str 92,.ref 4),(.str 91,.kd 0),(.str 90,T [.int 12,.int 13,.int 14,.kd 0,.kd 1,.kd 2]),(.str 101,.bad),(.str 99,.bad),(.str 100,.bad)])::((1,.inst 5 5)::(sn 5 (.bad) (.bad) (.bad) (.ref 6) ((6,lsP 256 [(195,.ref 7)])::((7,.inst 3 8)::((8,.ns [(41,.bad),(31,.bad),(26,.bad),(29,.bad),(24,.bad),(40,.bad),(39,.bad),(38,.bad),(37,.bad),(21,.bad),(36,.bad),(35,.bad),(34,.ref 9),(33,.bad)])::((9,.inst 4 10)::((10,.ns [(45,.bad),(44,.bad),(43,.ref 11),(42,.bad)])::((11,.kt 1002)::[]))))))))),((0,.dict [(.str 94,.ref 1),(.str 93,.ref 2),(.str 18,.ref 3),(.str 92,.ref 4),(.str 91,.kd 0),(.str 90,T [.int 12,.int 13,.int 14,.kd 0,.kd 1,.kd 2]),(.str 101,.bad),(.str 99,.bad),(.str 100,.bad)])::[]),0,[0],.bool true⟩
noncomputable def cd197b:Ct:=⟨[.ref 0,.int 197,.si (.n 0 5)],12,((0,.dict [(.str 94,.ref 1),(.str 93,.ref 2),(.str 18,.ref 3),(.str 92,.ref 4),(.str 91,.kd 0),(.str 90,T [.int 12,.int 13,.int 14,.kd 0,.kd 1,.kd 2]),(.str 101,.bad),(.str 99,.bad),(.str 100,.bad)])::((1,.inst 5 5)::(sn 5 (.bad) (.bad) (.bad) (.ref 6) ((6,lsP 256 [(197,.ref 7)])::((7,.inst 3 8)::((8,.ns [(41,.bad),(31,.bad),(26,.bad),(29,.bad),(24,.bad),(40,.bad),(39,.bad),(38,.bad),(37,.bad),(21,.bad),(36,.bad),(35,.bad),(34,.ref 9),(33,.bad)])::((9,.inst 4 10)::((10,.ns [(45,.bad),(44,.bad),(43,.ref 11),(42,.bad)])::((11,.kt 1003)::[]))))))))),((0,.dict [(.str 94,.ref 1),(.str 93,.ref 2),(.str 18,.ref 3),(.str 92,.ref 4),(.str 91,.kd 0),(.str 90,T [.int 12,.int 13,.int 14,.kd 0,.kd 1,.kd 2]),(.str 101,.bad),(.str 99,.bad),(.str 100,.bad)])::[]),0,[0],.bool true⟩
noncomputable def cd198b:Ct:=⟨[.ref 0,.int 198,.si (.n 0 5)],12,((0,.dict [(.str 94,.ref 1),(.str 93,.ref 2),(.str 18,.ref 3),(.str 92,.ref 4),(.str 91,.kd 0),(.str 90,T [.int 12,.int 13,.int 14,.kd 0,.kd 1,.kd 2]),(.str 101,.bad),(.str 99,.bad),(.str 100,.bad)])::((1,.inst 5 5)::(sn 5 (.bad) (.bad) (.bad) (.ref 6) ((6,lsP 256 [(198,.ref 7)])::((7,.inst 3 8)::((8,.ns [(41,.bad),(31,.bad),(26,.bad),(29,.bad),(24,.bad),(40,.bad),(39,.bad),(38,.bad),(37,.bad),(21,.bad),(36,.bad),(35,.bad),(34,.ref 9),(33,.bad)])::((9,.inst 4 10)::((10,.ns [(45,.bad),(44,.bad),(43,.ref 11),(42,.bad)])::((11,.kt 1004)::[]))))))))),((0,.dict [(.str 94,.ref 1),(.str 93,.ref 2),(.str 18,.ref 3),(.str 92,.ref 4),(.str 91,.kd 0),(.str 90,T [.int 12,.int 13,.int 14,.kd 0,.kd 1,.kd 2]),(.str 101,.bad),(.str 99,.bad),(.str 100,.bad)])::[]),0,[0],.bool true⟩
noncomputable def cd199b:Ct:=⟨[.ref 0,.int 199,.si (.n 0 5)],12,((0,.dict [(.str 94,.ref 1),(.str 93,.ref 2),(.str 18,.ref 3),(.str 92,.ref 4),(.str 91,.kd 0),(.str 90,T [.int 12,.int 13,.int 14,.kd 0,.kd 1,.kd 2]),(.str 101,.bad),(.str 99,.bad),(.str 100,.bad)])::((1,.inst 5 5)::(sn 5 (.bad) (.bad) (.bad) (.ref 6) ((6,lsP 256 [(199,.ref 7)])::((7,.inst 3 8)::((8,.ns [(41,.bad),(31,.bad),(26,.bad),(29,.bad),(24,.bad),(40,.bad),(39,.bad),(38,.bad),(37,.bad),(21,.bad),(36,.bad),(35,.bad),(34,.ref 9),(33,.bad)])::((9,.inst 4 10)::((10,.ns [(45,.bad),(44,.bad),(43,.ref 11),(42,.bad)])::((11,.kt 1005)::[]))))))))),((0,.dict [(.str 94,.ref 1),(.str 93,.ref 2),(.str 18,.ref 3),(.str 92,.ref 4),(.str 91,.kd 0),(.str 90,T [.int 12,.int 13,.int 14,.kd 0,.kd 1,.kd 2]),(.str 101,.bad),(.str 99,.bad),(.str 100,.bad)])::[]),0,[0],.bool true⟩
noncomputable def cd200b:Ct:=⟨[.ref 0,.int 200,.si (.n 0 5)],12,((0,.dict [(.str 94,.ref 1),(.str 93,.ref 2),(.str 18,.ref 3),(.str 92,.ref 4),(.str 91,.kd 0),(.str 90,T [.int 12,.int 13,.int 14,.kd 0,.kd 1,.kd 2]),(.str 101,.bad),(.str 99,.bad),(.str 100,.bad)])::((1,.inst 5 5)::(sn 5 (.bad) (.bad) (.bad) (.ref 6) ((6,lsP 256 [(200,.ref 7)])::((7,.inst 3 8)::((8,.ns [(41,.bad),(31,.bad),(26,.bad),(29,.bad),(24,.bad),(40,.bad),(39,.bad),(38,.bad),(37,.bad),(21,.bad),(36,.bad),(35,.bad),(34,.ref 9),(33,.bad)])::((9,.inst 4 10)::((10,.ns [(45,.bad),(44,.bad),(43,.ref 11),(42,.bad)])::((11,.kt 1006)::[]))))))))),((0,.dict [(.str 94,.ref 1),(.str 93,.ref 2),(.str 18,.ref 3),(.str 92,.ref 4),(.str 91,.kd 0),(.str 90,T [.int 12,.int 13,.int 14,.kd 0,.kd 1,.kd 2]),(.str 101,.bad),(.str 99,.bad),(.str 100,.bad)])::[]),0,[0],.bool true⟩
noncomputable def cd201b:Ct:=⟨[.ref 0,.int 201,.si (.n 0 5)],12,((0,.dict [(.str 94,.ref 1),(.str 93,.ref 2),(.str 18,.ref 3),(.str 92,.ref 4),(.str 91,.kd 0),(.str 90,T [.int 12,.int 13,.int 14,.kd 0,.kd 1,.kd 2]),(.str 101,.bad),(.str 99,.bad),(.str 100,.bad)])::((1,.inst 5 5)::(sn 5 (.bad) (.bad) (.bad) (.ref 6) ((6,lsP 256 [(201,.ref 7)])::((7,.inst 3 8)::((8,.ns [(41,.bad),(31,.bad),(26,.bad),(29,.bad),(24,.bad),(40,.bad),(39,.bad),(38,.bad),(37,.bad),(21,.bad),(36,.bad),(35,.bad),(34,.ref 9),(33,.bad)])::((9,.inst 4 10)::((10,.ns [(45,.bad),(44,.bad),(43,.ref 11),(42,.bad)])::((11,.kt 1007)::[]))))))))),((0,.dict [(.str 94,.ref 1),(.str 93,.ref 2),(.str 18,.ref 3),(.str 92,.ref 4),(.str 91,.kd 0),(.str 90,T [.int 12,.int 13,.int 14,.kd 0,.kd 1,.kd 2]),(.str 101,.bad),(.str 99,.bad),(.str 100,.bad)])::[]),0,[0],.bool true⟩
noncomputable def cd211b:Ct:=⟨[.ref 0,.int 211,.si (.n 0 5)],12,((0,.dict [(.str 94,.ref 1),(.str 93,.ref 2),(.str 18,.ref 3),(.str 92,.ref 4),(.str 91,.kd 0),(.str 90,T [.int 12,.int 13,.int 14,.kd 0,.kd 1,.kd 2]),(.str 101,.bad),(.str 99,.bad),(.str 100,.bad)])::((1,.inst 5 5)::(sn 5 (.bad) (.bad) (.bad) (.ref 6) ((6,lsP 256 [(211,.ref 7)])::((7,.inst 3 8)::((8,.ns [(41,.bad),(31,.bad),(26,.bad),(29,.bad),(24,.bad),(40,.bad),(39,.bad),(38,.bad),(37,.bad),(21,.bad),(36,.bad),(35,.bad),(34,.ref 9),(33,.bad)])::((9,.inst 4 10)::((10,.ns [(45,.bad),(44,.bad),(43,.ref 11),(42,.bad)])::((11,.kt 1008)::[]))))))))),((0,.dict [(.str 94,.ref 1),(.str 93,.ref 2),(.str 18,.ref 3),(.str 92,.ref 4),(.str 91,.kd 0),(.str 90,T [.int 12,.int 13,.int 14,.kd 0,.kd 1,.kd 2]),(.str 101,.bad),(.str 99,.bad),(.str 100,.bad)])::[]),0,[0],.bool true⟩
noncomputable def cd212b:Ct:=⟨[.ref 0,.int 212,.si (.n 0 5)],12,((0,.dict [(.str 94,.ref 1),(.str 93,.ref 2),(.str 18,.ref 3),(.str 92,.ref 4),(.str 91,.kd 0),(.str 90,T [.int 12,.int 13,.int 14,.kd 0,.kd 1,.kd 2]),(.str 101,.bad),(.str 99,.bad),(.str 100,.bad)])::((1,.inst 5 5)::(sn 5 (.bad) (.bad) (.bad) (.ref 6) ((6,lsP 256 [(212,.ref 7)])::((7,.inst 3 8)::((8,.ns [(41,.bad),(31,.bad),(26,.bad),(29,.bad),(24,.bad),(40,.bad),(39,.bad),(38,.bad),(37,.bad),(21,.bad),(36,.bad),(35,.bad),(34,.ref 9),(33,.bad)])::((9,.inst 4 10)::((10,.ns [(45,.bad),(44,.bad),(43,.ref 11),(42,.bad)])::((11,.kt 1009)::[]))))))))),((0,.dict [(.str 94,.ref 1),(.str 93,.ref 2),(.str 18,.ref 3),(.str 92,.ref 4),(.str 91,.kd 0),(.str 90,T [.int 12,.int 13,.int 14,.kd 0,.kd 1,.kd 2]),(.str 101,.bad),(.str 99,.bad),(.str 100,.bad)])::[]),0,[0],.bool true⟩
noncomputable def cd63a:Ct:=⟨[.ref 0,.int 63,.si (.n 0 5)],12,((0,.dict [(.str 94,.ref 1),(.str 93,.ref 2),(.str 18,.ref 3),(.str 92,.ref 4),(.str 91,.kd 0),(.str 90,T [.int 12,.int 13,.int 14,.kd 0,.kd 1,.kd 2])])::((1,.inst 5 5)::(sn 5 (.bad) (.bad) (.bad) (.ref 6) ((6,lsP 256 [(63,.ref 7)])::((7,.inst 3 8)::((8,.ns [(41,.bad),(31,.bad),(26,.bad),(29,.bad),(24,.bad),(40,.bad),(39,.bad),(38,.bad),(37,.bad),(21,.bad),(36,.bad),(35,.bad),(34,.ref 9),(33,.bad)])::((9,.inst 4 10)::((10,.ns [(45,.bad),(44,.bad),(43,.ref 11),(42,.bad)])::((11,.kt 1010)::[]))))))))),((0,.dict [(.str 94,.ref 1),(.str 93,.ref 2),(.str 18,.ref 3),(.str 92,.ref 4),(.str 91,.kd 0),(.str 90,T [.int 12,.int 13,.int 14,.kd 0,.kd 1,.kd 2]),(.str 101,.bad),(.str 99,.bad),(.str 100,.bad)])::[]),0,[0],.bool true⟩
noncomputable def cd103a:Ct:=⟨[.ref 0,.int 103,.si (.n 0 5)],12,((0,.dict [(.str 94,.ref 1),(.str 93,.ref 2),(.str 18,.ref 3),(.str 92,.ref 4),(.str 91,.kd 0),(.str 90,T [.int 12,.int 13,.int 14,.kd 0,.kd 1,.kd 2])])::((1,.inst 5 5)::(sn 5 (.bad) (.bad) (.bad) (.ref 6) ((6,lsP 256 [(103,.ref 7)])::((7,.inst 3 8)::((8,.ns [(41,.bad),(31,.bad),(26,.bad),(29,.bad),(24,.bad),(40,.bad),(39,.bad),(38,.bad),(37,.bad),(21,.bad),(36,.bad),(35,.bad),(34,.ref 9),(33,.bad)])::((9,.inst 4 10)::((10,.ns [(45,.bad),(44,.bad),(43,.ref 11),(42,.bad)])::((11,.kt 1000)::[]))))))))),((0,.dict [(.str 94,.ref 1),(.str 93,.ref 2),(.str 18,.ref 3),(.str 92,.ref 4),(.str 91,.kd 0),(.str 90,T [.int 12,.int 13,.int 14,.kd 0,.kd 1,.kd 2]),(.str 101,.bad),(.str 99,.bad),(.str 100,.bad)])::[]),0,[0],.bool true⟩
noncomputable def cd187a:Ct:=⟨[.ref 0,.int 187,.si (.n 0 5)],12,((0,.dict [(.str 94,.ref 1),(.str 93,.ref 2),(.str 18,.ref 3),(.str 92,.ref 4),(.str 91,.kd 0),(.str 90,T [.int 12,.int 13,.int 14,.kd 0,.kd 1,.kd 2])])::((1,.inst 5 5)::(sn 5 (.bad) (.bad) (.bad) (.ref 6) ((6,lsP 256 [(187,.ref 7)])::((7,.inst 3 8)::((8,.ns [(41,.bad),(31,.bad),(26,.bad),(29,.bad),(24,.bad),(40,.bad),(39,.bad),(38,.bad),(37,.bad),(21,.bad),(36,.bad),(35,.bad),(34,.ref 9),(33,.bad)])::((9,.inst 4 10)::((10,.ns [(45,.bad),(44,.bad),(43,.ref 11),(42,.bad)])::((11,.kt 1011)::[]))))))))),((0,.dict [(.str 94,.ref 1),(.str 93,.ref 2),(.str 18,.ref 3),(.str 92,.ref 4),(.str 91,.kd 0),(.str 90,T [.int 12,.int 13,.int 14,.kd 0,.kd 1,.kd 2]),(.str 101,.bad),(.str 99,.bad),(.str 100,.bad)])::[]),0,[0],.bool true⟩
noncomputable def cd195a:Ct:=⟨[.ref 0,.int 195,.si (.n 0 5)],12,((0,.dict [(.str 94,.ref 1),(.str 93,.ref 2),(.str 18,.ref 3),(.str 92,.ref 4),(.str 91,.kd 0),(.str 90,T [.int 12,.int 13,.int 14,.kd 0,.kd 1,.kd 2])])::((1,.inst 5 5)::(sn 5 (.bad) (.bad) (.bad) (.ref 6) ((6,lsP 256 [(195,.ref 7)])::((7,.inst 3 8)::((8,.ns [(41,.bad),(31,.bad),(26,.bad),(29,.bad),(24,.bad),(40,.bad),(39,.bad),(38,.bad),(37,.bad),(21,.bad),(36,.bad),(35,.bad),(34,.ref 9),(33,.bad)])::((9,.inst 4 10)::((10,.ns [(45,.bad),(44,.bad),(43,.ref 11),(42,.bad)])::((11,.kt 1002)::[]))))))))),((0,.dict [(.str 94,.ref 1),(.str 93,.ref 2),(.str 18,.ref 3),(.str 92,.ref 4),(.str 91,.kd 0),(.str 90,T [.int 12,.int 13,.int 14,.kd 0,.kd 1,.kd 2]),(.str 101,.bad),(.str 99,.bad),(.str 100,.bad)])::[]),0,[0],.bool true⟩
noncomputable def cd200a:Ct:=⟨[.ref 0,.int 200,.si (.n 0 5)],12,((0,.dict [(.str 94,.ref 1),(.str 93,.ref 2),(.str 18,.ref 3),(.str 92,.ref 4),(.str 91,.kd 0),(.str 90,T [.int 12,.int 13,.int 14,.kd 0,.kd 1,.kd 2])])::((1,.inst 5 5)::(sn 5 (.bad) (.bad) (.bad) (.ref 6) ((6,lsP 256 [(200,.ref 7)])::((7,.inst 3 8)::((8,.ns [(41,.bad),(31,.bad),(26,.bad),(29,.bad),(24,.bad),(40,.bad),(39,.bad),(38,.bad),(37,.bad),(21,.bad),(36,.bad),(35,.bad),(34,.ref 9),(33,.bad)])::((9,.inst 4 10)::((10,.ns [(45,.bad),(44,.bad),(43,.ref 11),(42,.bad)])::((11,.kt 1006)::[]))))))))),((0,.dict [(.str 94,.ref 1),(.str 93,.ref 2),(.str 18,.ref 3),(.str 92,.ref 4),(.str 91,.kd 0),(.str 90,T [.int 12,.int 13,.int 14,.kd 0,.kd 1,.kd 2]),(.str 101,.bad),(.str 99,.bad),(.str 100,.bad)])::[]),0,[0],.bool true⟩
noncomputable def ctd:Ct:=⟨[.ref 0,.bad,.bad,.int 1,.int 0,.int (-1),.tn,.int 0],2,((0,.inst 1 1)::((1,.ns [])::[])),(td 1 [.ref 2,.ref 3,.ref 4,.int 0,.ref 5,.int 0] ((2,mkL [])::((3,mkL [])::((4,mkL [])::((5,mkL [])::[]))))),4,[1],.none⟩
noncomputable def ci0 (p0 p1 p2 p3 p4:Nat):Ct:=⟨[.ref 0,.str 87],14,((0,.inst 5 1)::(sn 1 (.ref 2) (.ref 3) (.bad) (.ref 4) ((2,.inst 0 5)::((3,lsP 64 [(43,.ref 6)])::((4,lsL 4 256 [(185,.none),(186,.none),(187,.none),(188,.none),(189,.none),(190,.none)])::((5,.ns [(5,.ref 7),(4,.ref 8),(3,.ref 9),(2,.ref 10),(0,.ref 11)])::((6,.inst 1 12)::((7,.kt p0)::((8,.kt p1)::((9,.kt p2)::((10,.kt p3)::((11,.kt p4)::(td 12 [.bad,.bad,.ref 13,.int 0,.bad,.int 0] ((13,mkL [])::[])))))))))))))),((13,mkL [.int 185,.int 186,.int 187,.int 188,.int 189,.int 190])::((4,lsL 4 256 [(185,.ref 15),(186,.ref 17),(187,.ref 19),(188,.ref 25),(189,.ref 27),(190,.ref 29)])::(md 14 185 43 1 (.int 0) (T [.int 13]) (.none) 28 (md 16 186 43 1 (.int 0) (T [.int 7]) (.none) 29 (md 18 187 43 1 (.int 0) (T [.int 12]) (.ref 23) 0 ((20,.kt 1011)::((21,mkL [])::((22,.ns [(45,.tn),(44,.int 1),(43,.ref 20),(42,.ref 21)])::((23,.inst 4 22)::(md 24 188 43 1 (.int 0) (T [.int 1]) (.none) 30 (md 26 189 43 1 (.int 0) (T [.int 9]) (.none) 31 (md 28 190 43 1 (.int 0) (T [.int 2]) (.none) 32 [])))))))))))),16,[13,4],.bool true⟩
noncomputable def ci1 (p0 p1 p2 p3 p4:Nat):Ct:=⟨[.ref 0,.str 87],25,((0,.inst 5 1)::(sn 1 (.ref 2) (.ref 3) (.bad) (.ref 4) ((2,.inst 0 5)::((3,lsP 64 [(43,.ref 6)])::((4,lsL 4 256 [(185,.ref 8),(186,.ref 11),(187,.ref 7),(188,.ref 10),(189,.ref 9),(190,.ref 12)])::((5,.ns [(5,.ref 13),(4,.ref 14),(3,.ref 15),(2,.ref 16),(0,.ref 17)])::((6,.inst 1 18)::((7,.inst 3 19)::((8,.inst 3 20)::((9,.inst 3 21)::((10,.inst 3 22)::((11,.inst 3 23)::((12,.inst 3 24)::((13,.kt p0)::((14,.kt p1)::((15,.kt p2)::((16,.kt p3)::((17,.kt p4)::(td 18 [.bad,.bad,.bad,.int 0,.bad,.int 0] (mo 19 43 (mo 20 43 (mo 21 43 (mo 22 43 (mo 23 43 (mo 24 43 []))))))))))))))))))))))))),((4,lsL 4 256 [(185,.ref 26),(186,.ref 28),(187,.ref 30),(188,.ref 36),(189,.ref 38),(190,.ref 40)])::(md 25 185 43 1 (.int 0) (T [.int 13]) (.none) 28 (md 27 186 43 1 (.int 0) (T [.int 7]) (.none) 29 (md 29 187 43 1 (.int 0) (T [.int 12]) (.ref 34) 0 ((31,.kt 1011)::((32,mkL [])::((33,.ns [(45,.tn),(44,.int 1),(43,.ref 31),(42,.ref 32)])::((34,.inst 4 33)::(md 35 188 43 1 (.int 0) (T [.int 1]) (.none) 30 (md 37 189 43 1 (.int 0) (T [.int 9]) (.none) 31 (md 39 190 43 1 (.int 0) (T [.int 2]) (.none) 32 []))))))))))),16,[4],.bool true⟩
noncomputable def ci2 (p0 p1 p2 p3 p4 p5 p6 p7 p8 p9 p10 p11 p12:Nat):Ct:=⟨[.ref 0,.str 86],34,((0,.inst 5 1)::(sn 1 (.ref 2) (.ref 3) (.ref 4) (.ref 5) ((2,.inst 0 6)::((3,lsP 64 [(6,.ref 11),(44,.ref 10),(45,.ref 9),(46,.ref 13),(47,.ref 7),(53,.ref 8),(54,.ref 12)])::((4,lsL 4 64 [(3,.none),(4,.none),(5,.none)])::((5,lsL 5 256 [(60,.none),(61,.none),(62,.none),(63,.none),(64,.none),(112,.none),(113,.none),(114,.none),(115,.none),(116,.none),(117,.none),(118,.none),(119,.none),(120,.none),(121,.none),(122,.none),(123,.none),(207,.none)])::((6,.ns [(5,.ref 14),(4,.ref 15),(3,.ref 16),(2,.ref 17),(0,.ref 18)])::((7,.inst 1 19)::((8,.inst 1 20)::((9,.inst 1 21)::((10,.inst 1 22)::((11,.inst 1 23)::((12,.inst 1 24)::((13,.inst 1 25)::((14,.kt p0)::((15,.kt p1)::((16,.kt p2)::((17,.kt p3)::((18,.kt p4)::(td 19 [.bad,.bad,.ref 26,.int 0,.bad,.int 0] (td 20 [.bad,.bad,.ref 27,.int 0,.bad,.int 0] (td 21 [.bad,.bad,.ref 28,.int 0,.bad,.int 0] (td 22 [.bad,.bad,.ref 29,.int 0,.bad,.int 0] (td 23 [.bad,.ref 30,.ref 31,.int 0,.bad,.int 0] (td 24 [.bad,.bad,.ref 32,.int 0,.bad,.int 0] (td 25 [.bad,.bad,.ref 33,.int 0,.bad,.int 0] ((26,mkL [])::((27,mkL [])::((28,mkL [])::((29,mkL [])::((30,mkL [])::((31,mkL [])::((32,mkL [])::((33,mkL [])::[])))))))))))))))))))))))))))))))))),((14,.kt p5)::((15,.kt p6)::((16,.kt p7)::((17,.kt p8)::((18,.kt p9)::((30,mkL [.int 3,.int 4,.int 5])::((4,lsL 4 64 [(3,.ref 35),(4,.ref 37),(5,.ref 39)])::((31,mkL [.int 60,.int 61,.int 62,.int 63,.int 64,.int 207])::((5,lsL 5 256 [(60,.ref 41),(61,.ref 43),(62,.ref 45),(63,.ref 47),(64,.ref 53),(112,.ref 57),(113,.ref 59),(114,.ref 61),(115,.ref 63),(116,.ref 65),(117,.ref 67),(118,.ref 69),(119,.ref 71),(120,.ref 73),(121,.ref 75),(122,.ref 77),(123,.ref 79),(207,.ref 55)])::((29,mkL [.int 112,.int 113])::((28,mkL [.int 114,.int 115])::((33,mkL [.int 116,.int 117])::((26,mkL [.int 118,.int 119])::((27,mkL [.int 120,.int 121])::((32,mkL [.int 122,.int 123])::((34,.ns [(32,.int 3),(31,.int 6),(26,.bad),(30,.int 12),(29,.int 1),(24,.int 0),(28,.bad)])::((35,.inst 2 34)::((36,.ns [(32,.int 4),(31,.int 6),(26,.bad),(30,.int 11),(29,.int 1),(24,.int 0),(28,.bad)])::((37,.inst 2 36)::((38,.ns [(32,.int 5),(31,.int 6),(26,.bad),(30,.kd 5),(29,.int 1),(24,.int 0),(28,.bad)])::((39,.inst 2 38)::(md 40 60 6 1 (.kd 2) (T [.kd 2,.kd 2]) (.none) 20 (md 42 61 6 1 (.kd 2) (T [.kd 2,.kd 2]) (.none) 21 (md 44 62 6 129 (.int 1) (T [.kd 2,.kd 2]) (.none) 22 (md 46 63 6 129 (.int 1) (T [.kd 2,.kd 2]) (.ref 51) 0 ((48,.kt 1010)::((49,mkL [])::((50,.ns [(45,.tn),(44,.int 2),(43,.ref 48),(42,.ref 49)])::((51,.inst 4 50)::(md 52 64 6 2 (.int 1) (T [.int 12]) (.none) 22 (md 54 207 6 2 (.int 7) (.tn) (.none) 23 (md 56 112 44 32 (.int 0) (T [.int 12,.int 11]) (.none) 25 (md 58 113 44 6 (.int 0) (.tn) (.none) 26 (md 60 114 45 32 (.int 0) (T [.int 12,.int 11]) (.none) 25 (md 62 115 45 6 (.int 0) (T [.kd p10]) (.none) 26 (md 64 116 46 32 (.int 0) (T [.int 12,.int 11]) (.none) 25 (md 66 117 46 6 (.kd p10) (.tn) (.none) 26 (md 68 118 47 32 (.int 0) (T [.int 12,.int 11]) (.none) 25 (md 70 119 47 6 (.kd p11) (T [.kd p10]) (.none) 26 (md 72 120 53 32 (.int 0) (T [.int 12,.int 11]) (.none) 25 (md 74 121 53 6 (.kd p12) (T [.kd p10,.kd p11]) (.none) 26 (md 76 122 54 32 (.int 0) (T [.int 12,.int 11]) (.none) 25 (md 78 123 54 6 (.int 1) (T [.kd p10]) (.none) 26 []))))))))))))))))))))))))))))))))))))))))))),46,[14,15,16,17,18,30,4,31,5,29,28,33,26,27,32],.bool true⟩
noncomputable def ci3 (p0 p1 p2 p3 p4 p5 p6 p7:Nat):Ct:=⟨[.ref 0,.str 86],68,((0,.inst 5 1)::(sn 1 (.ref 2) (.ref 3) (.ref 4) (.ref 5) ((2,.inst 0 6)::((3,lsP 64 [(6,.ref 11),(44,.ref 10),(45,.ref 9),(46,.ref 13),(47,.ref 7),(53,.ref 8),(54,.ref 12)])::((4,lsL 4 64 [(3,.ref 14),(4,.ref 16),(5,.ref 15)])::((5,lsL 5 256 [(60,.ref 30),(61,.ref 25),(62,.ref 34),(63,.ref 17),(64,.ref 26),(112,.ref 27),(113,.ref 22),(114,.ref 31),(115,.ref 20),(116,.ref 29),(117,.ref 24),(118,.ref 33),(119,.ref 19),(120,.ref 28),(121,.ref 23),(122,.ref 32),(123,.ref 21),(207,.ref 18)])::((6,.ns [(5,.ref 35),(4,.ref 36),(3,.ref 37),(2,.ref 38),(0,.ref 39)])::((7,.inst 1 40)::((8,.inst 1 41)::((9,.inst 1 42)::((10,.inst 1 43)::((11,.inst 1 44)::((12,.inst 1 45)::((13,.inst 1 46)::((14,.inst 2 47)::((15,.inst 2 48)::((16,.inst 2 49)::((17,.inst 3 50)::((18,.inst 3 51)::((19,.inst 3 52)::((20,.inst 3 53)::((21,.inst 3 54)::((22,.inst 3 55)::((23,.inst 3 56)::((24,.inst 3 57)::((25,.inst 3 58)::((26,.inst 3 59)::((27,.inst 3 60)::((28,.inst 3 61)::((29,.inst 3 62)::((30,.inst 3 63)::((31,.inst 3 64)::((32,.inst 3 65)::((33,.inst 3 66)::((34,.inst 3 67)::((35,.kt p0)::((36,.kt p1)::((37,.kt p2)::((38,.kt p3)::((39,.kt p4)::(td 40 [.bad,.bad,.bad,.int 0,.bad,.int 0] (td 41 [.bad,.bad,.bad,.int 0,.bad,.int 0] (td 42 [.bad,.bad,.bad,.int 0,.bad,.int 0] (td 43 [.bad,.bad,.bad,.int 0,.bad,.int 0] (td 44 [.bad,.bad,.bad,.int 0,.bad,.int 0] (td 45 [.bad,.bad,.bad,.int 0,.bad,.int 0] (td 46 [.bad,.bad,.bad,.int 0,.bad,.int 0] ((47,.ns [(32,.bad),(31,.int 6),(26,.bad),(30,.bad),(29,.bad),(24,.bad),(28,.bad)])::((48,.ns [(32,.bad),(31,.int 6),(26,.bad),(30,.bad),(29,.bad),(24,.bad),(28,.bad)])::((49,.ns [(32,.bad),(31,.int 6),(26,.bad),(30,.bad),(29,.bad),(24,.bad),(28,.bad)])::(mo 50 6 (mo 51 6 (mo 52 47 (mo 53 45 (mo 54 54 (mo 55 44 (mo 56 53 (mo 57 46 (mo 58 6 (mo 59 6 (mo 60 44 (mo 61 53 (mo 62 46 (mo 63 6 (mo 64 45 (mo 65 54 (mo 66 47 (mo 67 6 [])))))))))))))))))))))))))))))))))))))))))))))))))))))))))))))))))))),((4,lsL 4 64 [(3,.ref 69),(4,.ref 71),(5,.ref 73)])::((5,lsL 5 256 [(60,.ref 75),(61,.ref 77),(62,.ref 79),(63,.ref 81),(64,.ref 87),(112,.ref 91),(113,.ref 93),(114,.ref 95),(115,.ref 97),(116,.ref 99),(117,.ref 101),(118,.ref 103),(119,.ref 105),(120,.ref 107),(121,.ref 109),(122,.ref 111),(123,.ref 113),(207,.ref 89)])::((68,.ns [(32,.int 3),(31,.int 6),(26,.bad),(30,.int 12),(29,.int 1),(24,.int 0),(28,.bad)])::((69,.inst 2 68)::((70,.ns [(32,.int 4),(31,.int 6),(26,.bad),(30,.int 11),(29,.int 1),(24,.int 0),(28,.bad)])::((71,.inst 2 70)::((72,.ns [(32,.int 5),(31,.int 6),(26,.bad),(30,.kd 5),(29,.int 1),(24,.int 0),(28,.bad)])::((73,.inst 2 72)::(md 74 60 6 1 (.kd 2) (T [.kd 2,.kd 2]) (.none) 20 (md 76 61 6 1 (.kd 2) (T [.kd 2,.kd 2]) (.none) 21 (md 78 62 6 129 (.int 1) (T [.kd 2,.kd 2]) (.none) 22 (md 80 63 6 129 (.int 1) (T [.kd 2,.kd 2]) (.ref 85) 0 ((82,.kt 1010)::((83,mkL [])::((84,.ns [(45,.tn),(44,.int 2),(43,.ref 82),(42,.ref 83)])::((85,.inst 4 84)::(md 86 64 6 2 (.int 1) (T [.int 12]) (.none) 22 (md 88 207 6 2 (.int 7) (.tn) (.none) 23 (md 90 112 44 32 (.int 0) (T [.int 12,.int 11]) (.none) 25 (md 92 113 44 6 (.int 0) (.tn) (.none) 26 (md 94 114 45 32 (.int 0) (T [.int 12,.int 11]) (.none) 25 (md 96 115 45 6 (.int 0) (T [.kd p5]) (.none) 26 (md 98 116 46 32 (.int 0) (T [.int 12,.int 11]) (.none) 25 (md 100 117 46 6 (.kd p5) (.tn) (.none) 26 (md 102 118 47 32 (.int 0) (T [.int 12,.int 11]) (.none) 25 (md 104 119 47 6 (.kd p6) (T [.kd p5]) (.none) 26 (md 106 120 53 32 (.int 0) (T [.int 12,.int 11]) (.none) 25 (md 108 121 53 6 (.kd p7) (T [.kd p5,.kd p6]) (.none) 26 (md 110 122 54 32 (.int 0) (T [.int 12,.int 11]) (.none) 25 (md 112 123 54 6 (.int 1) (T [.kd p5]) (.none) 26 [])))))))))))))))))))))))))))))),46,[4,5],.bool true⟩
noncomputable def ci4 (p0 p1 p2 p3 p4:Nat):Ct:=⟨[.ref 0,.str 88],20,((0,.inst 5 1)::(sn 1 (.ref 2) (.ref 3) (.ref 4) (.ref 5) ((2,.inst 0 6)::((3,lsP 64 [(49,.ref 7),(50,.ref 8)])::((4,lsL 4 64 [(18,.none)])::((5,lsL 5 256 [(191,.none),(192,.none),(193,.none),(194,.none),(195,.none),(196,.none),(197,.none),(198,.none),(199,.none),(204,.none),(205,.none)])::((6,.ns [(5,.ref 9),(4,.ref 10),(3,.ref 11),(2,.ref 12),(0,.ref 13)])::((7,.inst 1 14)::((8,.inst 1 15)::((9,.kt p0)::((10,.kt p1)::((11,.kt p2)::((12,.kt p3)::((13,.kt p4)::(td 14 [.bad,.bad,.ref 16,.int 0,.bad,.int 0] (td 15 [.bad,.ref 17,.ref 18,.int 0,.ref 19,.int 0] ((16,mkL [])::((17,mkL [])::((18,mkL [])::((19,mkL [])::[])))))))))))))))))))),((16,mkL [.int 191,.int 192,.int 193,.int 194,.int 195,.int 196])::((5,lsL 5 256 [(191,.ref 21),(192,.ref 23),(193,.ref 25),(194,.ref 27),(195,.ref 29),(196,.ref 35),(197,.ref 43),(198,.ref 49),(199,.ref 55),(204,.ref 39),(205,.ref 41)])::((17,mkL [.int 18])::((4,lsL 4 64 [(18,.ref 37)])::((18,mkL [.int 204,.int 205,.int 197,.int 198,.int 199])::((19,mkL [T [.str 69,.int 12,.int 198,.int 0,.tn],T [.str 68,.int 1,.int 199,.int 0,.tn]])::(md 20 191 49 1 (.int 0) (.tn) (.none) 33 (md 22 192 49 1 (.int 0) (T [.int 7]) (.none) 34 (md 24 193 49 1 (.int 0) (T [.int 12]) (.none) 35 (md 26 194 49 1 (.int 0) (T [.int 12]) (.none) 36 (md 28 195 49 1 (.int 0) (T [.int 12]) (.ref 33) 0 ((30,.kt 1002)::((31,mkL [])::((32,.ns [(45,.tn),(44,.int 0),(43,.ref 30),(42,.ref 31)])::((33,.inst 4 32)::(md 34 196 49 1 (.int 0) (.tn) (.none) 37 ((36,.ns [(32,.int 18),(31,.int 50),(26,.bad),(30,.int 7),(29,.int 1),(24,.int 0),(28,.bad)])::((37,.inst 2 36)::(md 38 204 50 1 (.int 7) (T [.int 12,.int 1]) (.none) 38 (md 40 205 50 1 (.int 12) (T [.int 7]) (.none) 39 (md 42 197 50 32 (.int 0) (T [.int 12,.int 1]) (.ref 47) 0 ((44,.kt 1003)::((45,mkL [])::((46,.ns [(45,.tn),(44,.int 3),(43,.ref 44),(42,.ref 45)])::((47,.inst 4 46)::(md 48 198 50 128 (.int 12) (.tn) (.ref 53) 0 ((50,.kt 1004)::((51,mkL [])::((52,.ns [(45,.tn),(44,.int 1),(43,.ref 50),(42,.ref 51)])::((53,.inst 4 52)::(md 54 199 50 128 (.int 1) (.tn) (.ref 59) 0 ((56,.kt 1005)::((57,mkL [])::((58,.ns [(45,.tn),(44,.int 2),(43,.ref 56),(42,.ref 57)])::((59,.inst 4 58)::[]))))))))))))))))))))))))))))))))))),40,[16,5,17,4,18,19],.bool true⟩
noncomputable def ci5 (p0 p1 p2 p3 p4:Nat):Ct:=⟨[.ref 0,.str 88],41,((0,.inst 5 1)::(sn 1 (.ref 2) (.ref 3) (.ref 4) (.ref 5) ((2,.inst 0 6)::((3,lsP 64 [(49,.ref 7),(50,.ref 8)])::((4,lsL 4 64 [(18,.ref 9)])::((5,lsL 5 256 [(191,.ref 10),(192,.ref 16),(193,.ref 13),(194,.ref 19),(195,.ref 12),(196,.ref 17),(197,.ref 14),(198,.ref 20),(199,.ref 11),(204,.ref 18),(205,.ref 15)])::((6,.ns [(5,.ref 21),(4,.ref 22),(3,.ref 23),(2,.ref 24),(0,.ref 25)])::((7,.inst 1 26)::((8,.inst 1 27)::((9,.inst 2 28)::((10,.inst 3 29)::((11,.inst 3 30)::((12,.inst 3 31)::((13,.inst 3 32)::((14,.inst 3 33)::((15,.inst 3 34)::((16,.inst 3 35)::((17,.inst 3 36)::((18,.inst 3 37)::((19,.inst 3 38)::((20,.inst 3 39)::((21,.kt p0)::((22,.kt p1)::((23,.kt p2)::((24,.kt p3)::((25,.kt p4)::(td 26 [.bad,.bad,.bad,.int 0,.bad,.int 0] (td 27 [.bad,.bad,.bad,.int 0,.ref 40,.int 0] ((28,.ns [(32,.bad),(31,.int 50),(26,.bad),(30,.bad),(29,.bad),(24,.bad),(28,.bad)])::(mo 29 49 (mo 30 50 (mo 31 49 (mo 32 49 (mo 33 50 (mo 34 50 (mo 35 49 (mo 36 49 (mo 37 50 (mo 38 49 (mo 39 50 ((40,mkL [T [.str 69,.int 12,.int 198,.int 0,.tn],T [.str 68,.int 1,.int 199,.int 0,.tn]])::[]))))))))))))))))))))))))))))))))))))))))),((5,lsL 5 256 [(191,.ref 42),(192,.ref 44),(193,.ref 46),(194,.ref 48),(195,.ref 50),(196,.ref 56),(197,.ref 64),(198,.ref 70),(199,.ref 76),(204,.ref 60),(205,.ref 62)])::((4,lsL 4 64 [(18,.ref 58)])::(md 41 191 49 1 (.int 0) (.tn) (.none) 33 (md 43 192 49 1 (.int 0) (T [.int 7]) (.none) 34 (md 45 193 49 1 (.int 0) (T [.int 12]) (.none) 35 (md 47 194 49 1 (.int 0) (T [.int 12]) (.none) 36 (md 49 195 49 1 (.int 0) (T [.int 12]) (.ref 54) 0 ((51,.kt 1002)::((52,mkL [])::((53,.ns [(45,.tn),(44,.int 0),(43,.ref 51),(42,.ref 52)])::((54,.inst 4 53)::(md 55 196 49 1 (.int 0) (.tn) (.none) 37 ((57,.ns [(32,.int 18),(31,.int 50),(26,.bad),(30,.int 7),(29,.int 1),(24,.int 0),(28,.bad)])::((58,.inst 2 57)::(md 59 204 50 1 (.int 7) (T [.int 12,.int 1]) (.none) 38 (md 61 205 50 1 (.int 12) (T [.int 7]) (.none) 39 (md 63 197 50 32 (.int 0) (T [.int 12,.int 1]) (.ref 68) 0 ((65,.kt 1003)::((66,mkL [])::((67,.ns [(45,.tn),(44,.int 3),(43,.ref 65),(42,.ref 66)])::((68,.inst 4 67)::(md 69 198 50 128 (.int 12) (.tn) (.ref 74) 0 ((71,.kt 1004)::((72,mkL [])::((73,.ns [(45,.tn),(44,.int 1),(43,.ref 71),(42,.ref 72)])::((74,.inst 4 73)::(md 75 199 50 128 (.int 1) (.tn) (.ref 80) 0 ((77,.kt 1005)::((78,mkL [])::((79,.ns [(45,.tn),(44,.int 2),(43,.ref 77),(42,.ref 78)])::((80,.inst 4 79)::[]))))))))))))))))))))))))))))))),40,[5,4],.bool true⟩
noncomputable def ci6 (p0 p1 p2 p3 p4 p5 p6 p7 p8 p9 p10 p11:Nat):Ct:=⟨[.ref 0,.str 83],46,((0,.inst 5 1)::(sn 1 (.ref 2) (.ref 3) (.bad) (.ref 4) ((2,.inst 0 5)::((3,lsP 64 [(9,.ref 9),(10,.ref 14),(11,.ref 7),(12,.ref 13),(13,.ref 11),(14,.ref 16),(15,.ref 6),(16,.ref 12),(17,.ref 10),(18,.ref 15),(19,.ref 8)])::((4,lsL 4 256 [(70,.none),(71,.none),(72,.none),(73,.none),(74,.none),(75,.none),(76,.none),(77,.none),(78,.none),(79,.none),(80,.none),(81,.none),(82,.none),(83,.none),(84,.none),(85,.none),(86,.none),(87,.none),(88,.none),(89,.none),(90,.none),(91,.none),(92,.none),(93,.none),(94,.none),(95,.none),(96,.none),(97,.none),(98,.none),(99,.none),(100,.none),(101,.none),(102,.none),(103,.none),(104,.none)])::((5,.ns [(5,.ref 17),(4,.ref 18),(3,.ref 19),(2,.ref 20),(0,.ref 21)])::((6,.inst 1 22)::((7,.inst 1 23)::((8,.inst 1 24)::((9,.inst 1 25)::((10,.inst 1 26)::((11,.inst 1 27)::((12,.inst 1 28)::((13,.inst 1 29)::((14,.inst 1 30)::((15,.inst 1 31)::((16,.inst 1 32)::((17,.kt p0)::((18,.kt p1)::((19,.kt p2)::((20,.kt p3)::((21,.kt p4)::(td 22 [.ref 33,.bad,.ref 34,.int 0,.bad,.int 0] (td 23 [.bad,.bad,.ref 35,.int 0,.bad,.int 0] (td 24 [.bad,.bad,.ref 36,.int 0,.bad,.int 0] (td 25 [.bad,.bad,.ref 37,.int 0,.bad,.int 0] (td 26 [.ref 38,.bad,.ref 39,.int 0,.bad,.int 0] (td 27 [.bad,.bad,.ref 40,.int 0,.bad,.int 0] (td 28 [.bad,.bad,.ref 41,.int 0,.bad,.int 0] (td 29 [.bad,.bad,.ref 42,.int 0,.bad,.int 0] (td 30 [.bad,.bad,.ref 43,.int 0,.bad,.int 0] (td 31 [.bad,.bad,.ref 44,.int 0,.bad,.int 0] (td 32 [.bad,.bad,.ref 45,.int 0,.bad,.int 0] ((33,mkL [])::((34,mkL [])::((35,mkL [])::((36,mkL [])::((37,mkL [])::((38,mkL [])::((39,mkL [])::((40,mkL [])::((41,mkL [])::((42,mkL [])::((43,mkL [])::((44,mkL [])::((45,mkL [])::[])))))))))))))))))))))))))))))))))))))))))))))),((37,mkL [.int 70,.int 71,.int 72])::((4,lsL 4 256 [(70,.ref 47),(71,.ref 49),(72,.ref 51),(73,.ref 53),(74,.ref 55),(75,.ref 57),(76,.ref 59),(77,.ref 61),(78,.ref 63),(79,.ref 65),(80,.ref 67),(81,.ref 69),(82,.ref 71),(83,.ref 73),(84,.ref 75),(85,.ref 77),(86,.ref 79),(87,.ref 81),(88,.ref 83),(89,.ref 85),(90,.ref 87),(91,.ref 89),(92,.ref 91),(93,.ref 93),(94,.ref 95),(95,.ref 97),(96,.ref 99),(97,.ref 101),(98,.ref 103),(99,.ref 105),(100,.ref 107),(101,.ref 109),(102,.ref 111),(103,.ref 113),(104,.ref 119)])::((43,mkL [.int 73,.int 74,.int 75])::((35,mkL [.int 76,.int 77,.int 78])::((42,mkL [.int 79,.int 80,.int 81])::((40,mkL [.int 82,.int 83,.int 84])::((45,mkL [.int 85,.int 86,.int 87])::((34,mkL [.int 88,.int 89,.int 90,.int 103])::((41,mkL [.int 91,.int 92,.int 93])::((39,mkL [.int 94,.int 95,.int 96,.int 104])::((44,mkL [.int 97,.int 98,.int 99])::((36,mkL [.int 100,.int 101,.int 102])::((17,.kt p5)::((18,.kt p6)::((19,.kt p7)::((20,.kt p8)::((21,.kt p9)::((33,mkL [.kd p10])::((38,mkL [.kd p11])::(md 46 70 9 2 (.int 13) (.tn) (.none) 64 (md 48 71 9 2 (.int 1) (T [.int 12]) (.none) 65 (md 50 72 9 2 (.int 7) (.tn) (.none) 66 (md 52 73 10 2 (.int 13) (.tn) (.none) 67 (md 54 74 10 2 (.int 1) (T [.int 12]) (.none) 68 (md 56 75 10 2 (.int 7) (.tn) (.none) 69 (md 58 76 11 2 (.int 13) (.tn) (.none) 70 (md 60 77 11 2 (.int 1) (T [.int 12]) (.none) 71 (md 62 78 11 2 (.int 7) (.tn) (.none) 72 (md 64 79 12 2 (.int 13) (.tn) (.none) 73 (md 66 80 12 2 (.int 1) (T [.int 12]) (.none) 74 (md 68 81 12 2 (.int 7) (.tn) (.none) 75 (md 70 82 13 2 (.int 13) (.tn) (.none) 76 (md 72 83 13 2 (.int 1) (T [.int 12]) (.none) 77 (md 74 84 13 2 (.int 7) (.tn) (.none) 78 (md 76 85 14 2 (.int 13) (.tn) (.none) 79 (md 78 86 14 2 (.int 1) (T [.int 12]) (.none) 80 (md 80 87 14 2 (.int 7) (.tn) (.none) 81 (md 82 88 15 2 (.int 13) (.tn) (.none) 82 (md 84 89 15 2 (.int 1) (T [.int 12]) (.none) 83 (md 86 90 15 2 (.int 7) (.tn) (.none) 84 (md 88 91 16 2 (.int 13) (.tn) (.none) 85 (md 90 92 16 2 (.int 1) (T [.int 12]) (.none) 86 (md 92 93 16 2 (.int 7) (.tn) (.none) 87 (md 94 94 17 2 (.int 13) (.tn) (.none) 88 (md 96 95 17 2 (.int 1) (T [.int 12]) (.none) 89 (md 98 96 17 2 (.int 7) (.tn) (.none) 90 (md 100 97 18 2 (.int 13) (.tn) (.none) 91 (md 102 98 18 2 (.int 1) (T [.int 12]) (.none) 92 (md 104 99 18 2 (.int 7) (.tn) (.none) 93 (md 106 100 19 2 (.int 13) (.tn) (.none) 94 (md 108 101 19 2 (.int 1) (T [.int 12]) (.none) 95 (md 110 102 19 2 (.int 7) (.tn) (.none) 96 (md 112 103 15 22 (.int 7) (T [.int 7]) (.ref 117) 0 ((114,.kt 1000)::((115,mkL [])::((116,.ns [(45,.tn),(44,.int 3),(43,.ref 114),(42,.ref 115)])::((117,.inst 4 116)::(md 118 104 17 22 (.int 7) (T [.int 9]) (.ref 123) 0 ((120,.kt 1001)::((121,mkL [])::((122,.ns [(45,.tn),(44,.int 3),(43,.ref 120),(42,.ref 121)])::((123,.inst 4 122)::[])))))))))))))))))))))))))))))))))))))))))))))))))))))))))))))),78,[37,4,43,35,42,40,45,34,41,39,44,36,17,18,19,20,21,33,38],.bool true⟩
noncomputable def ci7 (p0 p1 p2 p3 p4 p5 p6:Nat):Ct:=⟨[.ref 0,.str 83],105,((0,.inst 5 1)::(sn 1 (.ref 2) (.ref 3) (.bad) (.ref 4) ((2,.inst 0 5)::((3,lsP 64 [(9,.ref 9),(10,.ref 14),(11,.ref 7),(12,.ref 13),(13,.ref 11),(14,.ref 16),(15,.ref 6),(16,.ref 12),(17,.ref 10),(18,.ref 15),(19,.ref 8)])::((4,lsL 4 256 [(70,.ref 47),(71,.ref 19),(72,.ref 36),(73,.ref 28),(74,.ref 45),(75,.ref 24),(76,.ref 41),(77,.ref 32),(78,.ref 50),(79,.ref 18),(80,.ref 35),(81,.ref 27),(82,.ref 44),(83,.ref 23),(84,.ref 40),(85,.ref 31),(86,.ref 49),(87,.ref 21),(88,.ref 38),(89,.ref 29),(90,.ref 46),(91,.ref 25),(92,.ref 42),(93,.ref 33),(94,.ref 51),(95,.ref 17),(96,.ref 34),(97,.ref 26),(98,.ref 43),(99,.ref 22),(100,.ref 39),(101,.ref 30),(102,.ref 48),(103,.ref 20),(104,.ref 37)])::((5,.ns [(5,.ref 52),(4,.ref 53),(3,.ref 54),(2,.ref 55),(0,.ref 56)])::((6,.inst 1 57)::((7,.inst 1 58)::((8,.inst 1 59)::((9,.inst 1 60)::((10,.inst 1 61)::((11,.inst 1 62)::((12,.inst 1 63)::((13,.inst 1 64)::((14,.inst 1 65)::((15,.inst 1 66)::((16,.inst 1 67)::((17,.inst 3 68)::((18,.inst 3 69)::((19,.inst 3 70)::((20,.inst 3 71)::((21,.inst 3 72)::((22,.inst 3 73)::((23,.inst 3 74)::((24,.inst 3 75)::((25,.inst 3 76)::((26,.inst 3 77)::((27,.inst 3 78)::((28,.inst 3 79)::((29,.inst 3 80)::((30,.inst 3 81)::((31,.inst 3 82)::((32,.inst 3 83)::((33,.inst 3 84)::((34,.inst 3 85)::((35,.inst 3 86)::((36,.inst 3 87)::((37,.inst 3 88)::((38,.inst 3 89)::((39,.inst 3 90)::((40,.inst 3 91)::((41,.inst 3 92)::((42,.inst 3 93)::((43,.inst 3 94)::((44,.inst 3 95)::((45,.inst 3 96)::((46,.inst 3 97)::((47,.inst 3 98)::((48,.inst 3 99)::((49,.inst 3 100)::((50,.inst 3 101)::((51,.inst 3 102)::((52,.kt p0)::((53,.kt p1)::((54,.kt p2)::((55,.kt p3)::((56,.kt p4)::(td 57 [.ref 103,.bad,.bad,.int 0,.bad,.int 0] (td 58 [.bad,.bad,.bad,.int 0,.bad,.int 0] (td 59 [.bad,.bad,.bad,.int 0,.bad,.int 0] (td 60 [.bad,.bad,.bad,.int 0,.bad,.int 0] (td 61 [.ref 104,.bad,.bad,.int 0,.bad,.int 0] (td 62 [.bad,.bad,.bad,.int 0,.bad,.int 0] (td 63 [.bad,.bad,.bad,.int 0,.bad,.int 0] (td 64 [.bad,.bad,.bad,.int 0,.bad,.int 0] (td 65 [.bad,.bad,.bad,.int 0,.bad,.int 0] (td 66 [.bad,.bad,.bad,.int 0,.bad,.int 0] (td 67 [.bad,.bad,.bad,.int 0,.bad,.int 0] (mo 68 17 (mo 69 12 (mo 70 9 (mo 71 15 (mo 72 14 (mo 73 18 (mo 74 13 (mo 75 10 (mo 76 16 (mo 77 18 (mo 78 12 (mo 79 10 (mo 80 15 (mo 81 19 (mo 82 14 (mo 83 11 (mo 84 16 (mo 85 17 (mo 86 12 (mo 87 9 (mo 88 17 (mo 89 15 (mo 90 19 (mo 91 13 (mo 92 11 (mo 93 16 (mo 94 18 (mo 95 13 (mo 96 10 (mo 97 15 (mo 98 9 (mo 99 19 (mo 100 14 (mo 101 11 (mo 102 17 ((103,mkL [.kd p5])::((104,mkL [.kd p6])::[]))))))))))))))))))))))))))))))))))))))))))))))))))))))))))))))))))))))))))))))))))))))))))))))))))))))))),((4,lsL 4 256 [(70,.ref 106),(71,.ref 108),(72,.ref 110),(73,.ref 112),(74,.ref 114),(75,.ref 116),(76,.ref 118),(77,.ref 120),(78,.ref 122),(79,.ref 124),(80,.ref 126),(81,.ref 128),(82,.ref 130),(83,.ref 132),(84,.ref 134),(85,.ref 136),(86,.ref 138),(87,.ref 140),(88,.ref 142),(89,.ref 144),(90,.ref 146),(91,.ref 148),(92,.ref 150),(93,.ref 152),(94,.ref 154),(95,.ref 156),(96,.ref 158),(97,.ref 160),(98,.ref 162),(99,.ref 164),(100,.ref 166),(101,.ref 168),(102,.ref 170),(103,.ref 172),(104,.ref 178)])::(md 105 70 9 2 (.int 13) (.tn) (.none) 64 (md 107 71 9 2 (.int 1) (T [.int 12]) (.none) 65 (md 109 72 9 2 (.int 7) (.tn) (.none) 66 (md 111 73 10 2 (.int 13) (.tn) (.none) 67 (md 113 74 10 2 (.int 1) (T [.int 12]) (.none) 68 (md 115 75 10 2 (.int 7) (.tn) (.none) 69 (md 117 76 11 2 (.int 13) (.tn) (.none) 70 (md 119 77 11 2 (.int 1) (T [.int 12]) (.none) 71 (md 121 78 11 2 (.int 7) (.tn) (.none) 72 (md 123 79 12 2 (.int 13) (.tn) (.none) 73 (md 125 80 12 2 (.int 1) (T [.int 12]) (.none) 74 (md 127 81 12 2 (.int 7) (.tn) (.none) 75 (md 129 82 13 2 (.int 13) (.tn) (.none) 76 (md 131 83 13 2 (.int 1) (T [.int 12]) (.none) 77 (md 133 84 13 2 (.int 7) (.tn) (.none) 78 (md 135 85 14 2 (.int 13) (.tn) (.none) 79 (md 137 86 14 2 (.int 1) (T [.int 12]) (.none) 80 (md 139 87 14 2 (.int 7) (.tn) (.none) 81 (md 141 88 15 2 (.int 13) (.tn) (.none) 82 (md 143 89 15 2 (.int 1) (T [.int 12]) (.none) 83 (md 145 90 15 2 (.int 7) (.tn) (.none) 84 (md 147 91 16 2 (.int 13) (.tn) (.none) 85 (md 149 92 16 2 (.int 1) (T [.int 12]) (.none) 86 (md 151 93 16 2 (.int 7) (.tn) (.none) 87 (md 153 94 17 2 (.int 13) (.tn) (.none) 88 (md 155 95 17 2 (.int 1) (T [.int 12]) (.none) 89 (md 157 96 17 2 (.int 7) (.tn) (.none) 90 (md 159 97 18 2 (.int 13) (.tn) (.none) 91 (md 161 98 18 2 (.int 1) (T [.int 12]) (.none) 92 (md 163 99 18 2 (.int 7) (.tn) (.none) 93 (md 165 100 19 2 (.int 13) (.tn) (.none) 94 (md 167 101 19 2 (.int 1) (T [.int 12]) (.none) 95 (md 169 102 19 2 (.int 7) (.tn) (.none) 96 (md 171 103 15 22 (.int 7) (T [.int 7]) (.ref 176) 0 ((173,.kt 1000)::((174,mkL [])::((175,.ns [(45,.tn),(44,.int 3),(43,.ref 173),(42,.ref 174)])::((176,.inst 4 175)::(md 177 104 17 22 (.int 7) (T [.int 9]) (.ref 182) 0 ((179,.kt 1001)::((180,mkL [])::((181,.ns [(45,.tn),(44,.int 3),(43,.ref 179),(42,.ref 180)])::((182,.inst 4 181)::[])))))))))))))))))))))))))))))))))))))))))))),78,[4],.bool true⟩
noncomputable def ci8 (p0 p1 p2 p3 p4:Nat):Ct:=⟨[.ref 0,.str 89],16,((0,.inst 5 1)::(sn 1 (.ref 2) (.ref 3) (.ref 4) (.ref 5) ((2,.inst 0 6)::((3,lsP 64 [(51,.ref 7)])::((4,lsL 4 64 [(19,.none)])::((5,lsL 5 256 [(200,.none),(201,.none),(202,.none),(211,.none),(212,.none)])::((6,.ns [(5,.ref 8),(4,.ref 9),(3,.ref 10),(2,.ref 11),(0,.ref 12)])::((7,.inst 1 13)::((8,.kt p0)::((9,.kt p1)::((10,.kt p2)::((11,.kt p3)::((12,.kt p4)::(td 13 [.bad,.ref 14,.ref 15,.int 0,.bad,.int 0] ((14,mkL [])::((15,mkL [])::[])))))))))))))))),((14,mkL [.int 19])::((4,lsL 4 64 [(19,.ref 17)])::((15,mkL [.int 200,.int 201,.int 211,.int 212,.int 202])::((5,lsL 5 256 [(200,.ref 19),(201,.ref 25),(202,.ref 43),(211,.ref 31),(212,.ref 37)])::((16,.ns [(32,.int 19),(31,.int 51),(26,.bad),(30,.int 7),(29,.int 1),(24,.int 0),(28,.bad)])::((17,.inst 2 16)::(md 18 200 51 129 (.int 1) (T [.kd 1,.kd 1]) (.ref 23) 0 ((20,.kt 1006)::((21,mkL [])::((22,.ns [(45,.tn),(44,.int 2),(43,.ref 20),(42,.ref 21)])::((23,.inst 4 22)::(md 24 201 51 129 (.int 1) (T [.kd 1,.kd 1]) (.ref 29) 0 ((26,.kt 1007)::((27,mkL [])::((28,.ns [(45,.tn),(44,.int 2),(43,.ref 26),(42,.ref 27)])::((29,.inst 4 28)::(md 30 211 51 2 (.int 1) (T [.int 12]) (.ref 35) 0 ((32,.kt 1008)::((33,mkL [])::((34,.ns [(45,.tn),(44,.int 2),(43,.ref 32),(42,.ref 33)])::((35,.inst 4 34)::(md 36 212 51 2 (.int 7) (.tn) (.ref 41) 0 ((38,.kt 1009)::((39,mkL [])::((40,.ns [(45,.tn),(44,.int 1),(43,.ref 38),(42,.ref 39)])::((41,.inst 4 40)::(md 42 202 51 1 (.kd 1) (T [.int 11]) (.none) 40 []))))))))))))))))))))))))))),28,[14,4,15,5],.bool true⟩
noncomputable def ci9 (p0 p1 p2 p3 p4:Nat):Ct:=⟨[.ref 0,.str 89],26,((0,.inst 5 1)::(sn 1 (.ref 2) (.ref 3) (.ref 4) (.ref 5) ((2,.inst 0 6)::((3,lsP 64 [(51,.ref 7)])::((4,lsL 4 64 [(19,.ref 8)])::((5,lsL 5 256 [(200,.ref 11),(201,.ref 10),(202,.ref 13),(211,.ref 9),(212,.ref 12)])::((6,.ns [(5,.ref 14),(4,.ref 15),(3,.ref 16),(2,.ref 17),(0,.ref 18)])::((7,.inst 1 19)::((8,.inst 2 20)::((9,.inst 3 21)::((10,.inst 3 22)::((11,.inst 3 23)::((12,.inst 3 24)::((13,.inst 3 25)::((14,.kt p0)::((15,.kt p1)::((16,.kt p2)::((17,.kt p3)::((18,.kt p4)::(td 19 [.bad,.bad,.bad,.int 0,.bad,.int 0] ((20,.ns [(32,.bad),(31,.int 51),(26,.bad),(30,.bad),(29,.bad),(24,.bad),(28,.bad)])::(mo 21 51 (mo 22 51 (mo 23 51 (mo 24 51 (mo 25 51 [])))))))))))))))))))))))))),((4,lsL 4 64 [(19,.ref 27)])::((5,lsL 5 256 [(200,.ref 29),(201,.ref 35),(202,.ref 53),(211,.ref 41),(212,.ref 47)])::((26,.ns [(32,.int 19),(31,.int 51),(26,.bad),(30,.int 7),(29,.int 1),(24,.int 0),(28,.bad)])::((27,.inst 2 26)::(md 28 200 51 129 (.int 1) (T [.kd 1,.kd 1]) (.ref 33) 0 ((30,.kt 1006)::((31,mkL [])::((32,.ns [(45,.tn),(44,.int 2),(43,.ref 30),(42,.ref 31)])::((33,.inst 4 32)::(md 34 201 51 129 (.int 1) (T [.kd 1,.kd 1]) (.ref 39) 0 ((36,.kt 1007)::((37,mkL [])::((38,.ns [(45,.tn),(44,.int 2),(43,.ref 36),(42,.ref 37)])::((39,.inst 4 38)::(md 40 211 51 2 (.int 1) (T [.int 12]) (.ref 45) 0 ((42,.kt 1008)::((43,mkL [])::((44,.ns [(45,.tn),(44,.int 2),(43,.ref 42),(42,.ref 43)])::((45,.inst 4 44)::(md 46 212 51 2 (.int 7) (.tn) (.ref 51) 0 ((48,.kt 1009)::((49,mkL [])::((50,.ns [(45,.tn),(44,.int 1),(43,.ref 48),(42,.ref 49)])::((51,.inst 4 50)::(md 52 202 51 1 (.kd 1) (T [.int 11]) (.none) 40 []))))))))))))))))))))))))),28,[4,5],.bool true⟩
noncomputable def bodyFn:Nat:=60
noncomputable def doesFn:Nat:=66
noncomputable def instFn:Nat:=51
noncomputable def tdefFn:Nat:=15
noncomputable def bodyL:List Ct:=[cb63b,cb103b,cb104b,cb187b,cb195b,cb197b,cb198b,cb199b,cb200b,cb201b,cb211b,cb212b,cb63a,cb103a,cb187a,cb195a,cb200a]
noncomputable def doesP:List (Ct×List (Nat×Nat)):=[(cd63b,[(5,4),(20,4),(80,2)]),(cd103b,[(5,5),(25,5)]),(cd104b,[(5,5),(25,5)]),(cd187b,[(5,7),(35,2)]),(cd195b,[]),(cd197b,[(5,7),(35,2)]),(cd198b,[(5,7),(35,2)]),(cd199b,[(5,7),(35,2)]),(cd200b,[(5,4),(20,4)]),(cd201b,[(5,4),(20,4),(80,2)]),(cd211b,[(5,3),(15,7)]),(cd212b,[(5,3)]),(cd63a,[(5,4),(20,4),(80,2)]),(cd103a,[(5,5),(25,5)]),(cd187a,[(5,7),(35,2)]),(cd195a,[]),(cd200a,[(5,4),(20,4)])]
noncomputable def mapC (k:Nat) (path:List Nat) (l:List (Ct×Nat)):List En:=List.rec [] (fun c _ ih=>⟨k,c.1,path,c.2⟩::ih) l
noncomputable def mapC0 (k:Nat) (l:List Ct):List En:=List.rec [] (fun c _ ih=>⟨k,c,[],0⟩::ih) l
noncomputable def tagAt (i:Nat) (c:Ct):Nat:=match assoc i c.pre with | some o=>(match o with | .kt t=>t | _=>0) | none=>0
noncomputable def mapK' {α β:Type} (f:α→β) (l:List α):List β:=List.rec [] (fun x _ ih=>f x::ih) l
noncomputable def putE:List En:=mapC 0 [5] (mapK' (fun c=>(c,tagAt 2 c)) putL)
noncomputable def os0 (f:Nat):List En:=Bool.rec [] putE (Nat.beq f putFn)
noncomputable def cf1:CF:=iterO os0 (callF 14) 14
noncomputable def addR (x:Nat×Nat×Nat) (m:Nat) (L:List (List ((Nat×Nat×Nat)×Nat))):List (List ((Nat×Nat×Nat)×Nat)):=Nat.rec [] (fun j ih=>List.rec ih (fun rs _ t=>((x,j)::rs)::t) L) m
noncomputable def rsL (l:List (Nat×Nat)):List (List ((Nat×Nat×Nat)×Nat)):=List.rec [[]] (fun p _ ih=>addR (0,p.1,p.2) p.2 ih) l
noncomputable def bodyB (c:Ct):Bool:=b3 c.ok2 (runB c idV unC [] cf1 bodyFn []) true
noncomputable def doesB (c:Ct) (l:List (Nat×Nat)):Bool:=b3 c.ok2 (allB (fun rs=>runB c idV unC [] cf1 doesFn rs) (rsL l)) true
noncomputable def instB (c:Ct) (sl:List Nat):Bool:=b3 c.ok2 (runB c idV unC sl cf1 instFn []) true
theorem cb63b_ok:bodyB cb63b=true:=by kernel_rfl
theorem cb103b_ok:bodyB cb103b=true:=by kernel_rfl
theorem cb104b_ok:bodyB cb104b=true:=by kernel_rfl
theorem cb187b_ok:bodyB cb187b=true:=by kernel_rfl
theorem cb195b_ok:bodyB cb195b=true:=by kernel_rfl
theorem cb197b_ok:bodyB cb197b=true:=by kernel_rfl
theorem cb198b_ok:bodyB cb198b=true:=by kernel_rfl
theorem cb199b_ok:bodyB cb199b=true:=by kernel_rfl
theorem cb200b_ok:bodyB cb200b=true:=by kernel_rfl
theorem cb201b_ok:bodyB cb201b=true:=by kernel_rfl
theorem cb211b_ok:bodyB cb211b=true:=by kernel_rfl
theorem cb212b_ok:bodyB cb212b=true:=by kernel_rfl
theorem cb63a_ok:bodyB cb63a=true:=by kernel_rfl
theorem cb103a_ok:bodyB cb103a=true:=by kernel_rfl
theorem cb187a_ok:bodyB cb187a=true:=by kernel_rfl
theorem cb195a_ok:bodyB cb195a=true:=by kernel_rfl
theorem cb200a_ok:bodyB cb200a=true:=by kernel_rfl
theorem cd63b_ok:doesB cd63b [(5,4),(20,4),(80,2)]=true:=by kernel_rfl
theorem cd103b_ok:doesB cd103b [(5,5),(25,5)]=true:=by kernel_rfl
theorem cd104b_ok:doesB cd104b [(5,5),(25,5)]=true:=by kernel_rfl
theorem cd187b_ok:doesB cd187b [(5,7),(35,2)]=true:=by kernel_rfl
theorem cd195b_ok:doesB cd195b []=true:=by kernel_rfl
theorem cd197b_ok:doesB cd197b [(5,7),(35,2)]=true:=by kernel_rfl
theorem cd198b_ok:doesB cd198b [(5,7),(35,2)]=true:=by kernel_rfl
theorem cd199b_ok:doesB cd199b [(5,7),(35,2)]=true:=by kernel_rfl
theorem cd200b_ok:doesB cd200b [(5,4),(20,4)]=true:=by kernel_rfl
theorem cd201b_ok:doesB cd201b [(5,4),(20,4),(80,2)]=true:=by kernel_rfl
theorem cd211b_ok:doesB cd211b [(5,3),(15,7)]=true:=by kernel_rfl
theorem cd212b_ok:doesB cd212b [(5,3)]=true:=by kernel_rfl
theorem cd63a_ok:doesB cd63a [(5,4),(20,4),(80,2)]=true:=by kernel_rfl
theorem cd103a_ok:doesB cd103a [(5,5),(25,5)]=true:=by kernel_rfl
theorem cd187a_ok:doesB cd187a [(5,7),(35,2)]=true:=by kernel_rfl
theorem cd195a_ok:doesB cd195a []=true:=by kernel_rfl
theorem cd200a_ok:doesB cd200a [(5,4),(20,4)]=true:=by kernel_rfl
theorem ctd_ok:b3 ctd.ok2 (runB ctd idV unC [2,6,7,9] cf1 tdefFn []) true=true:=by kernel_rfl
noncomputable def slci0:List Nat:=[14,15,20,21,27,28,36,37,38,39,40,41,46,47,52,53]
noncomputable def slci1:List Nat:=[25,26,31,32,38,39,47,48,49,50,51,52,57,58,63,64]
noncomputable def slci2:List Nat:=[34,35,36,37,38,39,40,41,46,47,52,53,59,60,68,69,70,71,72,73,78,79,84,85,90,91,96,97,102,103,108,109,114,115,120,121,126,127,132,133,138,139,144,145,150,151]
noncomputable def slci3:List Nat:=[68,69,70,71,72,73,74,75,80,81,86,87,93,94,102,103,104,105,106,107,112,113,118,119,124,125,130,131,136,137,142,143,148,149,154,155,160,161,166,167,172,173,178,179,184,185]
noncomputable def slci4:List Nat:=[20,21,26,27,32,33,38,39,45,46,54,55,56,57,58,59,65,66,67,68,73,74,80,81,89,90,91,92,95,96,104,105,106,107,110,111,119,120,121,122]
noncomputable def slci5:List Nat:=[41,42,47,48,53,54,59,60,66,67,75,76,77,78,79,80,86,87,88,89,94,95,101,102,110,111,112,113,116,117,125,126,127,128,131,132,140,141,142,143]
noncomputable def slci6:List Nat:=[47,48,53,54,59,60,65,66,71,72,77,78,83,84,89,90,95,96,101,102,107,108,113,114,119,120,125,126,131,132,137,138,143,144,149,150,155,156,161,162,167,168,173,174,179,180,185,186,191,192,197,198,203,204,209,210,215,216,221,222,227,228,233,234,239,240,246,247,255,256,257,258,260,261,269,270,271,272]
noncomputable def slci7:List Nat:=[106,107,112,113,118,119,124,125,130,131,136,137,142,143,148,149,154,155,160,161,166,167,172,173,178,179,184,185,190,191,196,197,202,203,208,209,214,215,220,221,226,227,232,233,238,239,244,245,250,251,256,257,262,263,268,269,274,275,280,281,286,287,292,293,298,299,305,306,314,315,316,317,319,320,328,329,330,331]
noncomputable def slci8:List Nat:=[16,17,19,20,28,29,30,31,33,34,42,43,44,45,47,48,56,57,58,59,61,62,70,71,72,73,74,75]
noncomputable def slci9:List Nat:=[26,27,29,30,38,39,40,41,43,44,52,53,54,55,57,58,66,67,68,69,71,72,80,81,82,83,84,85]
theorem in0_ok:instB (ci0 40 41 42 43 44) slci0=true:=by kernel_rfl
theorem in1_ok:instB (ci0 55 56 57 58 59) slci0=true:=by kernel_rfl
theorem in2_ok:instB (ci0 70 71 72 73 74) slci0=true:=by kernel_rfl
theorem in3_ok:instB (ci0 85 86 87 88 89) slci0=true:=by kernel_rfl
theorem in4_ok:instB (ci0 90 91 92 93 94) slci0=true:=by kernel_rfl
theorem in5_ok:instB (ci1 40 41 42 43 44) slci1=true:=by kernel_rfl
theorem in6_ok:instB (ci1 55 56 57 58 59) slci1=true:=by kernel_rfl
theorem in7_ok:instB (ci1 70 71 72 73 74) slci1=true:=by kernel_rfl
theorem in8_ok:instB (ci2 40 41 42 43 44 70 71 72 73 74 8 9 10) slci2=true:=by kernel_rfl
theorem in9_ok:instB (ci2 55 56 57 58 59 85 86 87 88 89 10 11 12) slci2=true:=by kernel_rfl
theorem in10_ok:instB (ci3 70 71 72 73 74 8 9 10) slci3=true:=by kernel_rfl
theorem in11_ok:instB (ci3 85 86 87 88 89 10 11 12) slci3=true:=by kernel_rfl
theorem in12_ok:instB (ci3 90 91 92 93 94 8 9 10) slci3=true:=by kernel_rfl
theorem in13_ok:instB (ci4 55 56 57 58 59) slci4=true:=by kernel_rfl
theorem in14_ok:instB (ci4 70 71 72 73 74) slci4=true:=by kernel_rfl
theorem in15_ok:instB (ci4 40 41 42 43 44) slci4=true:=by kernel_rfl
theorem in16_ok:instB (ci4 85 86 87 88 89) slci4=true:=by kernel_rfl
theorem in17_ok:instB (ci4 90 91 92 93 94) slci4=true:=by kernel_rfl
theorem in18_ok:instB (ci5 40 41 42 43 44) slci5=true:=by kernel_rfl
theorem in19_ok:instB (ci5 55 56 57 58 59) slci5=true:=by kernel_rfl
theorem in20_ok:instB (ci5 70 71 72 73 74) slci5=true:=by kernel_rfl
theorem in21_ok:instB (ci6 40 41 42 43 44 55 56 57 58 59 8 9) slci6=true:=by kernel_rfl
theorem in22_ok:instB (ci6 70 71 72 73 74 90 91 92 93 94 11 12) slci6=true:=by kernel_rfl
theorem in23_ok:instB (ci7 55 56 57 58 59 8 9) slci7=true:=by kernel_rfl
theorem in24_ok:instB (ci7 85 86 87 88 89 8 9) slci7=true:=by kernel_rfl
theorem in25_ok:instB (ci7 90 91 92 93 94 11 12) slci7=true:=by kernel_rfl
theorem in26_ok:instB (ci8 55 56 57 58 59) slci8=true:=by kernel_rfl
theorem in27_ok:instB (ci8 70 71 72 73 74) slci8=true:=by kernel_rfl
theorem in28_ok:instB (ci8 40 41 42 43 44) slci8=true:=by kernel_rfl
theorem in29_ok:instB (ci8 85 86 87 88 89) slci8=true:=by kernel_rfl
theorem in30_ok:instB (ci8 90 91 92 93 94) slci8=true:=by kernel_rfl
theorem in31_ok:instB (ci9 40 41 42 43 44) slci9=true:=by kernel_rfl
theorem in32_ok:instB (ci9 55 56 57 58 59) slci9=true:=by kernel_rfl
theorem in33_ok:instB (ci9 70 71 72 73 74) slci9=true:=by kernel_rfl
noncomputable def instP:List ((Ct×Nat)×List Nat):=[((ci0 40 41 42 43 44,40),slci0),((ci0 55 56 57 58 59,55),slci0),((ci0 70 71 72 73 74,70),slci0),((ci0 85 86 87 88 89,85),slci0),((ci0 90 91 92 93 94,90),slci0),((ci1 40 41 42 43 44,40),slci1),((ci1 55 56 57 58 59,55),slci1),((ci1 70 71 72 73 74,70),slci1),((ci2 40 41 42 43 44 70 71 72 73 74 8 9 10,40),slci2),((ci2 55 56 57 58 59 85 86 87 88 89 10 11 12,55),slci2),((ci3 70 71 72 73 74 8 9 10,70),slci3),((ci3 85 86 87 88 89 10 11 12,85),slci3),((ci3 90 91 92 93 94 8 9 10,90),slci3),((ci4 55 56 57 58 59,55),slci4),((ci4 70 71 72 73 74,70),slci4),((ci4 40 41 42 43 44,40),slci4),((ci4 85 86 87 88 89,85),slci4),((ci4 90 91 92 93 94,90),slci4),((ci5 40 41 42 43 44,40),slci5),((ci5 55 56 57 58 59,55),slci5),((ci5 70 71 72 73 74,70),slci5),((ci6 40 41 42 43 44 55 56 57 58 59 8 9,40),slci6),((ci6 70 71 72 73 74 90 91 92 93 94 11 12,70),slci6),((ci7 55 56 57 58 59 8 9,55),slci7),((ci7 85 86 87 88 89 8 9,85),slci7),((ci7 90 91 92 93 94 11 12,90),slci7),((ci8 55 56 57 58 59,55),slci8),((ci8 70 71 72 73 74,70),slci8),((ci8 40 41 42 43 44,40),slci8),((ci8 85 86 87 88 89,85),slci8),((ci8 90 91 92 93 94,90),slci8),((ci9 40 41 42 43 44,40),slci9),((ci9 55 56 57 58 59,55),slci9),((ci9 70 71 72 73 74,70),slci9)]
noncomputable def doesL:List Ct:=mapK' Prod.fst doesP
noncomputable def instL:List (Ct×Nat):=mapK' Prod.fst instP
theorem al_nil {α:Type} {f:α→Bool}:allB f []=true:=rfl
theorem al_cons {α:Type} {f:α→Bool} {x:α} {l:List α} (h:f x=true) (t:allB f l=true):allB f (x::l)=true:=by
 show b3 (f x) (allB f l) true=true
 rw [h,t]; rfl
theorem body_all:allB bodyB bodyL=true:=al_cons cb63b_ok <| al_cons cb103b_ok <| al_cons cb104b_ok <| al_cons cb187b_ok <| al_cons cb195b_ok <| al_cons cb197b_ok <| al_cons cb198b_ok <| al_cons cb199b_ok <| al_cons cb200b_ok <| al_cons cb201b_ok <| al_cons cb211b_ok <| al_cons cb212b_ok <| al_cons cb63a_ok <| al_cons cb103a_ok <| al_cons cb187a_ok <| al_cons cb195a_ok <| al_cons cb200a_ok <| al_nil
theorem does_all:allB (fun p:Ct×List (Nat×Nat)=>doesB p.1 p.2) doesP=true:=al_cons cd63b_ok <| al_cons cd103b_ok <| al_cons cd104b_ok <| al_cons cd187b_ok <| al_cons cd195b_ok <| al_cons cd197b_ok <| al_cons cd198b_ok <| al_cons cd199b_ok <| al_cons cd200b_ok <| al_cons cd201b_ok <| al_cons cd211b_ok <| al_cons cd212b_ok <| al_cons cd63a_ok <| al_cons cd103a_ok <| al_cons cd187a_ok <| al_cons cd195a_ok <| al_cons cd200a_ok <| al_nil
theorem inst_all:allB (fun p:(Ct×Nat)×List Nat=>instB p.1.1 p.2) instP=true:=al_cons in0_ok <| al_cons in1_ok <| al_cons in2_ok <| al_cons in3_ok <| al_cons in4_ok <| al_cons in5_ok <| al_cons in6_ok <| al_cons in7_ok <| al_cons in8_ok <| al_cons in9_ok <| al_cons in10_ok <| al_cons in11_ok <| al_cons in12_ok <| al_cons in13_ok <| al_cons in14_ok <| al_cons in15_ok <| al_cons in16_ok <| al_cons in17_ok <| al_cons in18_ok <| al_cons in19_ok <| al_cons in20_ok <| al_cons in21_ok <| al_cons in22_ok <| al_cons in23_ok <| al_cons in24_ok <| al_cons in25_ok <| al_cons in26_ok <| al_cons in27_ok <| al_cons in28_ok <| al_cons in29_ok <| al_cons in30_ok <| al_cons in31_ok <| al_cons in32_ok <| al_cons in33_ok <| al_nil
end
end Mine
namespace Mine
noncomputable section
noncomputable def appC {α:Type} (a b:List α):List α:=List.rec b (fun x _ ih=>x::ih) a
noncomputable def triL (l:List Ct):List En:=appC (mapC0 0 l) (appC (mapC0 1 l) (mapC0 2 l))
noncomputable def os1 (f:Nat):List En:=Bool.rec (Bool.rec (Bool.rec (Bool.rec (Bool.rec [] (mapC 0 [51,5] instL) (Nat.beq f instFn)) (mapC0 0 [ctd]) (Nat.beq f tdefFn)) (mapC0 0 bodyL) (Nat.beq f bodyFn)) (triL doesL) (Nat.beq f doesFn)) putE (Nat.beq f putFn)
noncomputable def loopC:Ct:=⟨[.ref 0],7,[(0,.inst 0 1),(1,.ns [(5,.ref 2),(4,.ref 3),(3,.ref 4),(2,.ref 5),(0,.ref 6)]),(2,mkL (mapK (fun x=>x.row) primKR)),(3,.dict (numE 16 primKR 0)),(4,mkL (mapK (fun x=>.int x.d) primKR)),(5,mkL (mapK (fun x=>.int x.w) primKR)),(6,mkL (mapK (fun x=>.int x.o) primKR))],[(2,.kt 0),(3,.kt 1),(4,.kt 2),(5,.kt 3),(6,.kt 4)],0,[2,3,4,5,6],.none⟩
noncomputable def wX1:X:=match f54.body with | .scons a _=>a | _=>.dead
noncomputable def wR1:X:=match f54.body with | .scons _ r=>r | _=>.dead
noncomputable def wX2:X:=match wR1 with | .scons a _=>a | _=>.dead
noncomputable def wR2:X:=match wR1 with | .scons _ r=>r | _=>.dead
noncomputable def wXf:X:=match wR2 with | .scons a _=>a | _=>.dead
noncomputable def wXr:X:=match wR2 with | .scons _ r=>r | _=>.dead
noncomputable def lawXr:X:=match f68.body with | .scons _ r=>(match r with | .scons _ r=>r | _=>.dead) | _=>.dead
noncomputable def worldF:F:=⟨2,13,.scons wX1 (.scons wX2 (.scons wXf wXr))⟩
theorem loop_all:b3 (b3 (loopB loopC (kaF 0) (ktG 0) (callF 14) wXf 0 9) (loopB loopC (kaF 1) (ktG 1) (callF 14) wXf 1 9) (loopB loopC (kaF 2) (ktG 2) (callF 14) wXf 2 9)) (loopB loopC (kaF 3) (ktG 3) (callF 14) wXf 3 9) loopC.ok2=true:=by kernel_rfl
noncomputable def cfT:CF:=stepO os1 (stepW os1 54 worldF (fun cf env h=>worldU loopC wX1 wX2 wXr cf .none env h) (iterO os1 cf1 14))
noncomputable def topB (c:Nat) (r:Nat→Nat):Bool:=R.rec (motive:=fun _=>Bool) (fun _ _=>false) (fun _ _=>false) (fun _ _=>false) (fun v h=>match v with | .bool b=>b3 b (Bool.rec true false (memB 0 h.wr)) true | _=>false) false (sem lawXr cfT .none (lawEnv 1) (startH (numsV c) (rsOf c r)))
end
end Mine
namespace Mine
noncomputable section
noncomputable def rs3 (c a b d:Nat):List ((Nat×Nat×Nat)×Nat):=match c with
 | 0=>[((0,1,5),a)]
 | 1=>[((0,1,5),a)]
 | 2=>[((0,1,5),a),((1,1,5),b)]
 | _=>[((0,1,5),a),((1,1,5),b),((2,1,5),d)]
theorem rs3_eq (c:Nat) (r:Nat→Nat):rsOf c r=rs3 c (r 0) (r 1) (r 2):=by
 match c with
 | 0=>rfl
 | 1=>rfl
 | 2=>rfl
 | _ + 3=>rfl
noncomputable def endT (r:R):Bool:=R.rec (motive:=fun _=>Bool) (fun _ _=>false) (fun _ _=>false) (fun _ _=>false) (fun v h=>match v with | .bool b=>b3 b (Bool.rec true false (memB 0 h.wr)) true | _=>false) false r
noncomputable def topR (c a b d:Nat):Bool:=endT (sem lawXr cfT .none (lawEnv 1) (startH (numsV c) (rs3 c a b d)))
noncomputable def five (f:Nat→Bool):Bool:=b3 (b3 (f 0) (f 1) (f 2)) (b3 (f 3) (f 4) true) true
theorem five_of {f:Nat→Bool} (h:five f=true):∀ a,a < 5→f a=true:=by
 obtain ⟨h1,h2,_⟩:=b3_t h
 obtain ⟨a0,a1,a2⟩:=b3_t h1
 obtain ⟨a3,a4,_⟩:=b3_t h2
 intro a ha
 match a,ha with
 | 0,_=>exact a0
 | 1,_=>exact a1
 | 2,_=>exact a2
 | 3,_=>exact a3
 | 4,_=>exact a4
theorem five_mk {f:Nat→Bool} (h0:f 0=true) (h1:f 1=true) (h2:f 2=true) (h3:f 3=true) (h4:f 4=true):five f=true:=by
 unfold five
 rw [h0,h1,h2,h3,h4]
 rfl
theorem q10:topR 1 0 0 0=true:=by kernel_rfl
theorem q11:topR 1 1 0 0=true:=by kernel_rfl
theorem q12:topR 1 2 0 0=true:=by kernel_rfl
theorem q13:topR 1 3 0 0=true:=by kernel_rfl
theorem q14:topR 1 4 0 0=true:=by kernel_rfl
theorem run_1:five (fun a=>topR 1 a 0 0)=true:=five_mk q10 q11 q12 q13 q14
theorem q200:topR 2 0 0 0=true:=by kernel_rfl
theorem q201:topR 2 0 1 0=true:=by kernel_rfl
theorem q202:topR 2 0 2 0=true:=by kernel_rfl
theorem q203:topR 2 0 3 0=true:=by kernel_rfl
theorem q204:topR 2 0 4 0=true:=by kernel_rfl
theorem run_20:five (fun b=>topR 2 0 b 0)=true:=five_mk q200 q201 q202 q203 q204
theorem q210:topR 2 1 0 0=true:=by kernel_rfl
theorem q211:topR 2 1 1 0=true:=by kernel_rfl
theorem q212:topR 2 1 2 0=true:=by kernel_rfl
theorem q213:topR 2 1 3 0=true:=by kernel_rfl
theorem q214:topR 2 1 4 0=true:=by kernel_rfl
theorem run_21:five (fun b=>topR 2 1 b 0)=true:=five_mk q210 q211 q212 q213 q214
theorem q220:topR 2 2 0 0=true:=by kernel_rfl
theorem q221:topR 2 2 1 0=true:=by kernel_rfl
theorem q222:topR 2 2 2 0=true:=by kernel_rfl
theorem q223:topR 2 2 3 0=true:=by kernel_rfl
theorem q224:topR 2 2 4 0=true:=by kernel_rfl
theorem run_22:five (fun b=>topR 2 2 b 0)=true:=five_mk q220 q221 q222 q223 q224
theorem q230:topR 2 3 0 0=true:=by kernel_rfl
theorem q231:topR 2 3 1 0=true:=by kernel_rfl
theorem q232:topR 2 3 2 0=true:=by kernel_rfl
theorem q233:topR 2 3 3 0=true:=by kernel_rfl
theorem q234:topR 2 3 4 0=true:=by kernel_rfl
theorem run_23:five (fun b=>topR 2 3 b 0)=true:=five_mk q230 q231 q232 q233 q234
theorem q240:topR 2 4 0 0=true:=by kernel_rfl
theorem q241:topR 2 4 1 0=true:=by kernel_rfl
theorem q242:topR 2 4 2 0=true:=by kernel_rfl
theorem q243:topR 2 4 3 0=true:=by kernel_rfl
theorem q244:topR 2 4 4 0=true:=by kernel_rfl
theorem run_24:five (fun b=>topR 2 4 b 0)=true:=five_mk q240 q241 q242 q243 q244
theorem q3000:topR 3 0 0 0=true:=by kernel_rfl
theorem q3001:topR 3 0 0 1=true:=by kernel_rfl
theorem q3002:topR 3 0 0 2=true:=by kernel_rfl
theorem q3003:topR 3 0 0 3=true:=by kernel_rfl
theorem q3004:topR 3 0 0 4=true:=by kernel_rfl
theorem run_300:five (fun d=>topR 3 0 0 d)=true:=five_mk q3000 q3001 q3002 q3003 q3004
theorem q3010:topR 3 0 1 0=true:=by kernel_rfl
theorem q3011:topR 3 0 1 1=true:=by kernel_rfl
theorem q3012:topR 3 0 1 2=true:=by kernel_rfl
theorem q3013:topR 3 0 1 3=true:=by kernel_rfl
theorem q3014:topR 3 0 1 4=true:=by kernel_rfl
theorem run_301:five (fun d=>topR 3 0 1 d)=true:=five_mk q3010 q3011 q3012 q3013 q3014
theorem q3020:topR 3 0 2 0=true:=by kernel_rfl
theorem q3021:topR 3 0 2 1=true:=by kernel_rfl
theorem q3022:topR 3 0 2 2=true:=by kernel_rfl
theorem q3023:topR 3 0 2 3=true:=by kernel_rfl
theorem q3024:topR 3 0 2 4=true:=by kernel_rfl
theorem run_302:five (fun d=>topR 3 0 2 d)=true:=five_mk q3020 q3021 q3022 q3023 q3024
theorem q3030:topR 3 0 3 0=true:=by kernel_rfl
theorem q3031:topR 3 0 3 1=true:=by kernel_rfl
theorem q3032:topR 3 0 3 2=true:=by kernel_rfl
theorem q3033:topR 3 0 3 3=true:=by kernel_rfl
theorem q3034:topR 3 0 3 4=true:=by kernel_rfl
theorem run_303:five (fun d=>topR 3 0 3 d)=true:=five_mk q3030 q3031 q3032 q3033 q3034
theorem q3040:topR 3 0 4 0=true:=by kernel_rfl
theorem q3041:topR 3 0 4 1=true:=by kernel_rfl
theorem q3042:topR 3 0 4 2=true:=by kernel_rfl
theorem q3043:topR 3 0 4 3=true:=by kernel_rfl
theorem q3044:topR 3 0 4 4=true:=by kernel_rfl
theorem run_304:five (fun d=>topR 3 0 4 d)=true:=five_mk q3040 q3041 q3042 q3043 q3044
theorem q3100:topR 3 1 0 0=true:=by kernel_rfl
theorem q3101:topR 3 1 0 1=true:=by kernel_rfl
theorem q3102:topR 3 1 0 2=true:=by kernel_rfl
theorem q3103:topR 3 1 0 3=true:=by kernel_rfl
theorem q3104:topR 3 1 0 4=true:=by kernel_rfl
theorem run_310:five (fun d=>topR 3 1 0 d)=true:=five_mk q3100 q3101 q3102 q3103 q3104
theorem q3110:topR 3 1 1 0=true:=by kernel_rfl
theorem q3111:topR 3 1 1 1=true:=by kernel_rfl
theorem q3112:topR 3 1 1 2=true:=by kernel_rfl
theorem q3113:topR 3 1 1 3=true:=by kernel_rfl
theorem q3114:topR 3 1 1 4=true:=by kernel_rfl
theorem run_311:five (fun d=>topR 3 1 1 d)=true:=five_mk q3110 q3111 q3112 q3113 q3114
theorem q3120:topR 3 1 2 0=true:=by kernel_rfl
theorem q3121:topR 3 1 2 1=true:=by kernel_rfl
theorem q3122:topR 3 1 2 2=true:=by kernel_rfl
theorem q3123:topR 3 1 2 3=true:=by kernel_rfl
theorem q3124:topR 3 1 2 4=true:=by kernel_rfl
theorem run_312:five (fun d=>topR 3 1 2 d)=true:=five_mk q3120 q3121 q3122 q3123 q3124
theorem q3130:topR 3 1 3 0=true:=by kernel_rfl
theorem q3131:topR 3 1 3 1=true:=by kernel_rfl
theorem q3132:topR 3 1 3 2=true:=by kernel_rfl
theorem q3133:topR 3 1 3 3=true:=by kernel_rfl
theorem q3134:topR 3 1 3 4=true:=by kernel_rfl
theorem run_313:five (fun d=>topR 3 1 3 d)=true:=five_mk q3130 q3131 q3132 q3133 q3134
theorem q3140:topR 3 1 4 0=true:=by kernel_rfl
theorem q3141:topR 3 1 4 1=true:=by kernel_rfl
theorem q3142:topR 3 1 4 2=true:=by kernel_rfl
theorem q3143:topR 3 1 4 3=true:=by kernel_rfl
theorem q3144:topR 3 1 4 4=true:=by kernel_rfl
theorem run_314:five (fun d=>topR 3 1 4 d)=true:=five_mk q3140 q3141 q3142 q3143 q3144
theorem q3200:topR 3 2 0 0=true:=by kernel_rfl
theorem q3201:topR 3 2 0 1=true:=by kernel_rfl
theorem q3202:topR 3 2 0 2=true:=by kernel_rfl
theorem q3203:topR 3 2 0 3=true:=by kernel_rfl
theorem q3204:topR 3 2 0 4=true:=by kernel_rfl
theorem run_320:five (fun d=>topR 3 2 0 d)=true:=five_mk q3200 q3201 q3202 q3203 q3204
theorem q3210:topR 3 2 1 0=true:=by kernel_rfl
theorem q3211:topR 3 2 1 1=true:=by kernel_rfl
theorem q3212:topR 3 2 1 2=true:=by kernel_rfl
theorem q3213:topR 3 2 1 3=true:=by kernel_rfl
theorem q3214:topR 3 2 1 4=true:=by kernel_rfl
theorem run_321:five (fun d=>topR 3 2 1 d)=true:=five_mk q3210 q3211 q3212 q3213 q3214
theorem q3220:topR 3 2 2 0=true:=by kernel_rfl
theorem q3221:topR 3 2 2 1=true:=by kernel_rfl
theorem q3222:topR 3 2 2 2=true:=by kernel_rfl
theorem q3223:topR 3 2 2 3=true:=by kernel_rfl
theorem q3224:topR 3 2 2 4=true:=by kernel_rfl
theorem run_322:five (fun d=>topR 3 2 2 d)=true:=five_mk q3220 q3221 q3222 q3223 q3224
theorem q3230:topR 3 2 3 0=true:=by kernel_rfl
theorem q3231:topR 3 2 3 1=true:=by kernel_rfl
theorem q3232:topR 3 2 3 2=true:=by kernel_rfl
theorem q3233:topR 3 2 3 3=true:=by kernel_rfl
theorem q3234:topR 3 2 3 4=true:=by kernel_rfl
theorem run_323:five (fun d=>topR 3 2 3 d)=true:=five_mk q3230 q3231 q3232 q3233 q3234
theorem q3240:topR 3 2 4 0=true:=by kernel_rfl
theorem q3241:topR 3 2 4 1=true:=by kernel_rfl
theorem q3242:topR 3 2 4 2=true:=by kernel_rfl
theorem q3243:topR 3 2 4 3=true:=by kernel_rfl
theorem q3244:topR 3 2 4 4=true:=by kernel_rfl
theorem run_324:five (fun d=>topR 3 2 4 d)=true:=five_mk q3240 q3241 q3242 q3243 q3244
theorem q3300:topR 3 3 0 0=true:=by kernel_rfl
theorem q3301:topR 3 3 0 1=true:=by kernel_rfl
theorem q3302:topR 3 3 0 2=true:=by kernel_rfl
theorem q3303:topR 3 3 0 3=true:=by kernel_rfl
theorem q3304:topR 3 3 0 4=true:=by kernel_rfl
theorem run_330:five (fun d=>topR 3 3 0 d)=true:=five_mk q3300 q3301 q3302 q3303 q3304
theorem q3310:topR 3 3 1 0=true:=by kernel_rfl
theorem q3311:topR 3 3 1 1=true:=by kernel_rfl
theorem q3312:topR 3 3 1 2=true:=by kernel_rfl
theorem q3313:topR 3 3 1 3=true:=by kernel_rfl
theorem q3314:topR 3 3 1 4=true:=by kernel_rfl
theorem run_331:five (fun d=>topR 3 3 1 d)=true:=five_mk q3310 q3311 q3312 q3313 q3314
theorem q3320:topR 3 3 2 0=true:=by kernel_rfl
theorem q3321:topR 3 3 2 1=true:=by kernel_rfl
theorem q3322:topR 3 3 2 2=true:=by kernel_rfl
theorem q3323:topR 3 3 2 3=true:=by kernel_rfl
theorem q3324:topR 3 3 2 4=true:=by kernel_rfl
theorem run_332:five (fun d=>topR 3 3 2 d)=true:=five_mk q3320 q3321 q3322 q3323 q3324
theorem q3330:topR 3 3 3 0=true:=by kernel_rfl
theorem q3331:topR 3 3 3 1=true:=by kernel_rfl
theorem q3332:topR 3 3 3 2=true:=by kernel_rfl
theorem q3333:topR 3 3 3 3=true:=by kernel_rfl
theorem q3334:topR 3 3 3 4=true:=by kernel_rfl
theorem run_333:five (fun d=>topR 3 3 3 d)=true:=five_mk q3330 q3331 q3332 q3333 q3334
theorem q3340:topR 3 3 4 0=true:=by kernel_rfl
theorem q3341:topR 3 3 4 1=true:=by kernel_rfl
theorem q3342:topR 3 3 4 2=true:=by kernel_rfl
theorem q3343:topR 3 3 4 3=true:=by kernel_rfl
theorem q3344:topR 3 3 4 4=true:=by kernel_rfl
theorem run_334:five (fun d=>topR 3 3 4 d)=true:=five_mk q3340 q3341 q3342 q3343 q3344
theorem q3400:topR 3 4 0 0=true:=by kernel_rfl
theorem q3401:topR 3 4 0 1=true:=by kernel_rfl
theorem q3402:topR 3 4 0 2=true:=by kernel_rfl
theorem q3403:topR 3 4 0 3=true:=by kernel_rfl
theorem q3404:topR 3 4 0 4=true:=by kernel_rfl
theorem run_340:five (fun d=>topR 3 4 0 d)=true:=five_mk q3400 q3401 q3402 q3403 q3404
theorem q3410:topR 3 4 1 0=true:=by kernel_rfl
theorem q3411:topR 3 4 1 1=true:=by kernel_rfl
theorem q3412:topR 3 4 1 2=true:=by kernel_rfl
theorem q3413:topR 3 4 1 3=true:=by kernel_rfl
theorem q3414:topR 3 4 1 4=true:=by kernel_rfl
theorem run_341:five (fun d=>topR 3 4 1 d)=true:=five_mk q3410 q3411 q3412 q3413 q3414
theorem q3420:topR 3 4 2 0=true:=by kernel_rfl
theorem q3421:topR 3 4 2 1=true:=by kernel_rfl
theorem q3422:topR 3 4 2 2=true:=by kernel_rfl
theorem q3423:topR 3 4 2 3=true:=by kernel_rfl
theorem q3424:topR 3 4 2 4=true:=by kernel_rfl
theorem run_342:five (fun d=>topR 3 4 2 d)=true:=five_mk q3420 q3421 q3422 q3423 q3424
theorem q3430:topR 3 4 3 0=true:=by kernel_rfl
theorem q3431:topR 3 4 3 1=true:=by kernel_rfl
theorem q3432:topR 3 4 3 2=true:=by kernel_rfl
theorem q3433:topR 3 4 3 3=true:=by kernel_rfl
theorem q3434:topR 3 4 3 4=true:=by kernel_rfl
theorem run_343:five (fun d=>topR 3 4 3 d)=true:=five_mk q3430 q3431 q3432 q3433 q3434
theorem q3440:topR 3 4 4 0=true:=by kernel_rfl
theorem q3441:topR 3 4 4 1=true:=by kernel_rfl
theorem q3442:topR 3 4 4 2=true:=by kernel_rfl
theorem q3443:topR 3 4 4 3=true:=by kernel_rfl
theorem q3444:topR 3 4 4 4=true:=by kernel_rfl
theorem run_344:five (fun d=>topR 3 4 4 d)=true:=five_mk q3440 q3441 q3442 q3443 q3444
theorem run_of (c:Nat) (hc:c≤3) (r:Nat→Nat) (hr:∀ k,r k < 5):topR c (r 0) (r 1) (r 2)=true:=by
 have h0:=hr 0
 have h1:=hr 1
 have h2:=hr 2
 generalize r 0=a at h0
 generalize r 1=b at h1
 generalize r 2=d at h2
 match c,hc with
 | 0,_=>exact five_of run_1 a h0
 | 1,_=>exact five_of run_1 a h0
 | 2,_=>
  match a,h0 with
  | 0,_=>exact five_of run_20 b h1
  | 1,_=>exact five_of run_21 b h1
  | 2,_=>exact five_of run_22 b h1
  | 3,_=>exact five_of run_23 b h1
  | 4,_=>exact five_of run_24 b h1
 | 3,_=>
  match a,h0,b,h1 with
  | 0,_,0,_=>exact five_of run_300 d h2
  | 0,_,1,_=>exact five_of run_301 d h2
  | 0,_,2,_=>exact five_of run_302 d h2
  | 0,_,3,_=>exact five_of run_303 d h2
  | 0,_,4,_=>exact five_of run_304 d h2
  | 1,_,0,_=>exact five_of run_310 d h2
  | 1,_,1,_=>exact five_of run_311 d h2
  | 1,_,2,_=>exact five_of run_312 d h2
  | 1,_,3,_=>exact five_of run_313 d h2
  | 1,_,4,_=>exact five_of run_314 d h2
  | 2,_,0,_=>exact five_of run_320 d h2
  | 2,_,1,_=>exact five_of run_321 d h2
  | 2,_,2,_=>exact five_of run_322 d h2
  | 2,_,3,_=>exact five_of run_323 d h2
  | 2,_,4,_=>exact five_of run_324 d h2
  | 3,_,0,_=>exact five_of run_330 d h2
  | 3,_,1,_=>exact five_of run_331 d h2
  | 3,_,2,_=>exact five_of run_332 d h2
  | 3,_,3,_=>exact five_of run_333 d h2
  | 3,_,4,_=>exact five_of run_334 d h2
  | 4,_,0,_=>exact five_of run_340 d h2
  | 4,_,1,_=>exact five_of run_341 d h2
  | 4,_,2,_=>exact five_of run_342 d h2
  | 4,_,3,_=>exact five_of run_343 d h2
  | 4,_,4,_=>exact five_of run_344 d h2
theorem endT_t {r:R} (h:endT r=true):∃ hF,r=.rt (.bool true) hF∧memB 0 hF.wr=false:=by
 cases r with
 | rt v h0=>
  cases v with
  | bool b=>
   obtain ⟨h1,h2,_⟩:=b3_t (show b3 b (Bool.rec true false (memB 0 h0.wr)) true=true from h)
   subst h1
   refine ⟨h0,rfl,?_⟩
   cases q:memB 0 h0.wr with
   | false=>rfl
   | true=>rw [q] at h2; cases h2
  | _=>cases h
 | _=>cases h
theorem runs_all:∀ c r,c≤3→(∀ k,r k < 5)→∃ hF,sem lawXr cfT .none (lawEnv 1) (startH (numsV c) (rsOf c r))=.rt (.bool true) hF∧memB 0 hF.wr=false:=fun c r hc hr=>by
 rw [rs3_eq]
 exact endT_t (run_of c hc r hr)
end
end Mine
namespace Mine
noncomputable section
noncomputable def qLaw:Program:={ pw with main:={ pw.main with body:=match pw.main.body[345]? with | some s=>[s] | none=>[] } }
noncomputable def looseL:List Str:=Hd.nmL
noncomputable abbrev rowL:=PySem.Challenge.rw_xm0345_01.row
noncomputable abbrev sEnd (w:World) (os:OsState):Shared:=⟨H1 w.params,Array.mk [],{},2150,os⟩
theorem open_l:∀ w:World,(fencedOpening treeTable pw w 20000).map (fun s=>(s.heap,s.gens,s.drawn,s.toks))=some (boot_heap w.params,Array.mk [],boot_drawn,boot_toks):=boot_open (by kernel_rfl) (by decide) (fun s=>by kernel_rfl)
theorem size_l:∀ w:World,((boot_heap w.params).isNs mainGlobals && (Array.mk []:Array GenState).size == 0,(boot_heap w.params).objs.size,(boot_heap w.params).nsMap mainGlobals "__annotations__")=(true,11,some (.ref 6)):=fun w=>by kernel_rfl
theorem look_b (P:Params):(H1 P).get? builtinsNs=some (boot_o_0 P):=by kernel_rfl
theorem look_m (P:Params):(H1 P).get? mainGlobals=some (Hd.oD (Hd.gl P (Hd.S "law_xm0345_01" 1958)) 349):=by kernel_rfl
noncomputable def subq (l:List Str) (m:List Str):Bool:=List.rec (motive:=fun _=>List Str→Bool) (fun l=>l.isEmpty) (fun b _ ih l=>List.casesOn l true fun a r=>Bool.rec (ih (a::r)) (ih r) (a == b)) m l
theorem subq_mem:∀ {m l:List Str},subq l m=true→∀ a∈l,m.contains a=true
 | [],l,h,a,ha=>by cases l <;> simp_all [subq]
 | b::m,[],h,a,ha=>by cases ha
 | b::m,c::r,h,a,ha=>by
  have h':(Bool.rec (subq (c::r) m) (subq r m) (c == b):Bool)=true:=h
  rw [List.contains_cons]
  cases q:(c == b) with
  | false=>rw [q] at h'; rw [subq_mem h' a ha,Bool.or_true]
  | true=>
   rw [q] at h'
   rcases List.mem_cons.mp ha with e | e
   ·rw [e,eq_of_beq q]; simp
   ·rw [subq_mem h' a e,Bool.or_true]
theorem all_split {l m st:List Str} (n:Nat) (h1:(l.take n).all (fun k=>st.contains k)=true) (h2:subq (l.drop n) m=true):l.all (fun k=>st.contains k || m.contains k)=true:=by
 rw [List.all_eq_true]
 intro x hx
 rw [← List.take_append_drop n l,List.mem_append] at hx
 rcases hx with h | h
 ·rw [List.all_eq_true.mp h1 x h]; rfl
 ·rw [subq_mem h2 x h,Bool.or_true]
theorem isNs_of {h:Heap} {a:Addr} {o:Obj} {l:List DictEntry} {n:Nat} (h1:h.get? a=some o) (h2:o.data=.dict ⟨l⟩ n) (h3:(l.all fun e=>match e.key with | .str _ _=>true | _=>false)=true):h.isNs a=true:=by
 unfold Heap.isNs
 rw [h1]
 simp only [h2,List.all_toArray]
 exact h3
theorem keysOk_of {h:Heap} {lo d c k:List Str} (n m:Nat) (h1:((h.nsKeys mainGlobals).take n).all (fun k=>startupNames.contains k)=true) (h2:subq (((h.nsKeys mainGlobals).take m).drop n) lo=true)
  (h3:((h.nsKeys mainGlobals).drop m).all (fun x=>d.contains x)=true) {lw:List Str} (hl:∀ x,lo.contains x=true→lw.contains x=true):h.keysOk lw d c k=true:=by
 unfold Heap.keysOk
 rw [List.all_eq_true]
 intro x hx
 rw [← List.take_append_drop m (h.nsKeys mainGlobals),List.mem_append] at hx
 rcases hx with hx | hx
 ·rw [← List.take_append_drop n ((h.nsKeys mainGlobals).take m),List.mem_append] at hx
  rcases hx with hx | hx
  ·rw [List.all_eq_true.mp h1 x (by rw [List.take_take] at hx; exact (List.take_sublist_take_left (Nat.min_le_left ..)).subset hx)]; rfl
  ·rw [hl x (subq_mem h2 x hx),Bool.or_true]; rfl
 ·rw [List.all_eq_true.mp h3 x hx,Bool.or_true]; rfl
theorem isM (P:Params):(H1 P).isNs mainGlobals=true:=isNs_of (look_m P) rfl (by kernel_rfl)
theorem k_t (P:Params):(((H1 P).nsKeys mainGlobals).take 9).all (fun k=>startupNames.contains k)=true:=by
 unfold Heap.nsKeys
 rw [look_m]
 kernel_rfl
theorem k_b (P:Params):subq (((H1 P).nsKeys mainGlobals).drop 9) pw.boundNames=true:=by
 unfold Heap.nsKeys
 rw [look_m]
 kernel_rfl
theorem k_w (P:Params):subq ((((H1 P).nsKeys mainGlobals).take 348).drop 9) Hd.nmL=true:=by
 unfold Heap.nsKeys
 rw [look_m]
 kernel_rfl
theorem k_e (P:Params):(((H1 P).nsKeys mainGlobals).drop 348).all (fun x=>((recsOf qLaw).map (·.name)).contains x)=true:=by
 unfold Heap.nsKeys
 rw [look_m]
 kernel_rfl
theorem inW {p:Program} {l:List Str} (x:Str) (h:l.contains x=true):(looseW p l).contains x=true:=by
 rw [List.contains_iff_mem] at h ⊢
 exact List.mem_append_left _ (List.mem_append_left _ (List.mem_append_left _ h))
theorem l_n (P:Params):namesBound pw (H1 P)=true:=by
 unfold namesBound
 rw [isM,all_split 9 (k_t P) (k_b P)]
 rfl
theorem l_k (P:Params):laidKept (boot_heap P) (H1 P)=true:=by
 unfold laidKept Heap.nsMap
 rw [isM,look_m]
 kernel_rfl
theorem l_s (P:Params):staticsOk (importedModules pw.main.body) (boot_heap P) (H1 P)=true:=by kernel_rfl
theorem look0 (w:World) (os:OsState):(staticsOk (importedModules pw.main.body) (boot_heap w.params) (H1 w.params) && namesBound pw (H1 w.params) && gensDone (sEnd w os) && laidKept (boot_heap w.params) (H1 w.params))=true:=by
 rw [l_s,l_n,l_k]
 kernel_rfl
noncomputable abbrev XtL:Shared→Bool:=fun s=>recOk (RowW.records rowL.toRowW) s
theorem seen_0 (w:World) (os:OsState):seen ((recsOf qLaw).map (·.name)) (ownsOf qLaw) [] { sEnd w os with gens:=#[] }=expectedOf qLaw:=by
 unfold seen
 rw [show ({ sEnd w os with gens:=#[] }:Shared).heap.isNs mainGlobals=true from isM w.params]
 kernel_rfl
theorem seen_1 (w:World) (os:OsState):(sEnd w os).heap.bltView=bltViewBooted:=by
 unfold Heap.bltView Heap.nsPairs
 rw [look_b]
 kernel_rfl
theorem seen_2 (w:World) (os:OsState):(sEnd w os).heap.keysOk (looseW qLaw looseL) ((recsOf qLaw).map (·.name)) ((litsOf qLaw).map (·.1)) ((clssOf qLaw (looseW qLaw looseL)).map (·.name))=true:=keysOk_of 9 348 (k_t w.params) (k_w w.params) (k_e w.params) inW
theorem seen_3 (w:World) (os:OsState):(sEnd w os).heap.accountedOkI (importedModules pw.main.body)=true:=by kernel_rfl
theorem seen_4 (w:World) (os:OsState):((sEnd w os).heap.isNs mainGlobals && (sEnd w os).heap.isNs builtinsNs && tablesOk qLaw (sEnd w os).heap && XtL (sEnd w os))=true:=by
 rw [isM]
 kernel_rfl
theorem seen_5 (w:World) (os:OsState):tabsOk qLaw (sEnd w os)=true:=by kernel_rfl
theorem seen_6 (w:World) (os:OsState):pinSeenD qLaw (drecsOf qLaw) (sEnd w os)=pinGoodD (drecsOf qLaw):=by kernel_rfl
theorem seen_7 (w:World) (os:OsState):plainSeenE qLaw (looseW qLaw looseL) (sEnd w os)=plainGoodE qLaw (looseW qLaw looseL):=by kernel_rfl
theorem seen_8 (w:World) (os:OsState):plainSeenD qLaw looseL (sEnd w os)=plainGoodD qLaw looseL:=by kernel_rfl
theorem noW (x:Str):theConstW qLaw x=none:=by kernel_rfl
theorem noWl:wlitsOf qLaw=[]:=by
 unfold wlitsOf
 rw [List.filterMap_eq_nil_iff]
 intro x _
 rw [noW]
 split <;> rfl
theorem seen_9 (w:World) (os:OsState):wideSeen qLaw (sEnd w os)=wideGood qLaw:=by
 unfold wideSeen wideGood
 rw [noWl]
 kernel_rfl
theorem seen_10 (w:World) (os:OsState):clsSeenW qLaw looseL (sEnd w os)=clsGoodW qLaw looseL:=by kernel_rfl
theorem ands (a b c d e f:Bool) (h1:a=true) (h2:b=true) (h3:(c && d && e && f)=true):(a && b && c && d && e && f && true)=true:=by rw [h1,h2]; simpa using h3
theorem seen_l (w:World) (os:OsState):openSeen qLaw looseL (importedModules pw.main.body) XtL true (sEnd w os)=openGood qLaw looseL:=
 looks_pair (seen_0 w os) (looks_pair (seen_1 w os) (looks_pair (ands _ _ _ _ _ _ (seen_2 w os) (seen_3 w os) (seen_4 w os)) (looks_pair (seen_5 w os) (looks_pair (seen_6 w os) (looks_pair (seen_7 w os) (looks_pair (seen_8 w os) (looks_pair (seen_9 w os) (seen_10 w os))))))))
end
end Mine
namespace Mine
noncomputable section
noncomputable def kAddrs:List Nat:=[3,79,227,248,269,290,311,78,226,247,268,289,310,47,48,196,62,69,76,90,97,104,111,118,125,132,139,160,167,174,210,224,245,266,287,308,322,329,336,343,350,357,364,371,378,385,399,420,427,434,441,448,455,462,469,476,490,511,518,525,616,623,644,651,658,665,672,679,684,691,698,705,712,719,726,731,736,743,750,757,764,771,778,783,788,61,68,75,89,96,103,110,117,124,131,138,159,166,173,209,223,244,265,286,307,321,328,335,342,349,356,363,370,377,384,398,419,426,433,440,447,454,461,468,475,489,510,517,524,615,622,643,650,657,664,671,678,683,690,697,704,711,718,725,730,735,742,749,756,763,770,777,782,787]
noncomputable def Kf (P:Params):Frag:=List.rec [] (fun a _ ih=>(a,Hd.gtO (tH P) a)::ih) kAddrs
noncomputable def faL:List Nat:=[62,69,76,90,97,104,111,118,125,132,139,160,167,174,210,224,245,266,287,308,322,329,336,343,350,357,364,371,378,385,399,420,427,434,441,448,455,462,469,476,490,511,518,525,616,623,644,651,658,665,672,679,684,691,698,705,712,719,726,731,736,743,750,757,764,771,778,783,788]
noncomputable def caL:List Nat:=[79,227,248,269,290,311]
noncomputable def sL (l:List String):List Str:=List.rec [] (fun x _ ih=>Str.ofString x::ih) l
noncomputable def glbNs:List Str:=sL glbN
noncomputable def nameS:List Str:=sL nameL
noncomputable def nmsS:List (List Str):=List.rec [] (fun x _ ih=>sL x::ih) nmsL
noncomputable def padS (i:Nat):Str:=⟨(List.replicate i 122).toArray⟩
noncomputable def nmF (i:Nat):Str:=match nth nameS i with | some x=>x | none=>padS i
noncomputable def gnF (g:Nat):Str:=match nth glbNs g with | some x=>x | none=>""
noncomputable def faF (f:Nat):Addr:=nthD faL f
noncomputable def caF (c:Nat):Addr:=nthD caL c
theorem kin_rows (P:Params):((Kf P).map (·.1)).map (H1 P).get?=(Kf P).map fun p=>some p.2:=by kernel_rfl
theorem kin_small (P:Params):(Kf P).all (fun p=>Nat.blt p.1 (H1 P).objs.size)=true:=by kernel_rfl
theorem law_name (P:Params):nsIn (Kf P) mainGlobals "law"=some (some (.ref (faF 68))):=by kernel_rfl
theorem size_h (P:Params):(H1 P).objs.size=789:=by kernel_rfl
noncomputable def nmsF (k:Nat):List Str:=match nth nmsS k with | some l=>l | none=>[]
noncomputable def fnQ (P:Params) (k:Nat) (q:F):Bool:=match Nat.beq k 67 with
 | true=>fnCB (Kf P) nmF gnF ((Kf P).lookup (faF k)) q (nmsF k)
 | false=>fnB (Kf P) nmF gnF ((Kf P).lookup (faF k)) q (nmsF k)
noncomputable def fnQl (P:Params) (l:List F):Nat→Bool:=List.rec (fun _=>true) (fun q _ ih k=>fnQ P k q && ih (Nat.succ k)) l
theorem fq_0 (P:Params):fnQl P (Hd.takeN 5 (Hd.dropN 0 fnL)) 0=true:=by kernel_rfl
theorem fq_5 (P:Params):fnQl P (Hd.takeN 5 (Hd.dropN 5 fnL)) 5=true:=by kernel_rfl
theorem fq_10 (P:Params):fnQl P (Hd.takeN 5 (Hd.dropN 10 fnL)) 10=true:=by kernel_rfl
theorem fq_15 (P:Params):fnQl P (Hd.takeN 5 (Hd.dropN 15 fnL)) 15=true:=by kernel_rfl
theorem fq_20 (P:Params):fnQl P (Hd.takeN 5 (Hd.dropN 20 fnL)) 20=true:=by kernel_rfl
theorem fq_25 (P:Params):fnQl P (Hd.takeN 5 (Hd.dropN 25 fnL)) 25=true:=by kernel_rfl
theorem fq_30 (P:Params):fnQl P (Hd.takeN 5 (Hd.dropN 30 fnL)) 30=true:=by kernel_rfl
theorem fq_35 (P:Params):fnQl P (Hd.takeN 5 (Hd.dropN 35 fnL)) 35=true:=by kernel_rfl
theorem fq_40 (P:Params):fnQl P (Hd.takeN 5 (Hd.dropN 40 fnL)) 40=true:=by kernel_rfl
theorem fq_45 (P:Params):fnQl P (Hd.takeN 5 (Hd.dropN 45 fnL)) 45=true:=by kernel_rfl
theorem fq_50 (P:Params):fnQl P (Hd.takeN 5 (Hd.dropN 50 fnL)) 50=true:=by kernel_rfl
theorem fq_55 (P:Params):fnQl P (Hd.takeN 5 (Hd.dropN 55 fnL)) 55=true:=by kernel_rfl
theorem fq_60 (P:Params):fnQl P (Hd.takeN 5 (Hd.dropN 60 fnL)) 60=true:=by kernel_rfl
theorem fq_65 (P:Params):fnQl P (Hd.takeN 5 (Hd.dropN 65 fnL)) 65=true:=by kernel_rfl
theorem cls_0 (P:Params):clsB (Kf P) nmF faF (caF 0) ((clsL[0]?).getD [])=true:=by kernel_rfl
theorem cls_1 (P:Params):clsB (Kf P) nmF faF (caF 1) ((clsL[1]?).getD [])=true:=by kernel_rfl
theorem cls_2 (P:Params):clsB (Kf P) nmF faF (caF 2) ((clsL[2]?).getD [])=true:=by kernel_rfl
theorem cls_3 (P:Params):clsB (Kf P) nmF faF (caF 3) ((clsL[3]?).getD [])=true:=by kernel_rfl
theorem cls_4 (P:Params):clsB (Kf P) nmF faF (caF 4) ((clsL[4]?).getD [])=true:=by kernel_rfl
theorem cls_5 (P:Params):clsB (Kf P) nmF faF (caF 5) ((clsL[5]?).getD [])=true:=by kernel_rfl
theorem glb_all (P:Params):gAll (gB (Kf P) nmF caF faF) glbL glbNs=true:=by kernel_rfl
end
end Mine
namespace Mine
noncomputable section
theorem str_len_nm {i:Nat} {x:Str} (h:nth nameS i=some x):nmF i=x:=by unfold nmF; rw [h]
theorem nth_len {α:Type}:∀ {l:List α} {i:Nat},(nth l i=none∧l.length≤i)∨(∃ x,nth l i=some x∧i < l.length)
 | [],i=>.inl ⟨rfl,Nat.zero_le _⟩
 | x::l,0=>.inr ⟨x,rfl,Nat.succ_pos _⟩
 | x::l,i + 1=>by
  rcases nth_len (l:=l) (i:=i) with ⟨a,b⟩ | ⟨y,a,b⟩
  ·exact .inl ⟨a,Nat.succ_le_succ b⟩
  ·exact .inr ⟨y,a,Nat.succ_lt_succ b⟩
theorem names_nod:nodS nameS=true:=by kernel_rfl
theorem names_len:allB (fun x=>Nat.blt x.cps.size 108) nameS=true:=by kernel_rfl
theorem names_n:nameS.length=108:=by kernel_rfl
theorem names_ok:allB (fun x=>PyData.strOk x) nameS=true:=by kernel_rfl
theorem pad_size (i:Nat):(padS i).cps.size=i:=by simp [padS]
theorem nm_size {i:Nat}:(i < 108∧(nmF i).cps.size < 108∧nameS[i]?=some (nmF i))∨(108≤i∧nmF i=padS i):=by
 rcases nth_len (l:=nameS) (i:=i) with ⟨a,b⟩ | ⟨x,a,b⟩
 ·rw [names_n] at b
  exact .inr ⟨b,by unfold nmF; rw [a]⟩
 ·rw [names_n] at b
  have e:=str_len_nm a
  rw [nth_get] at a
  refine .inl ⟨b,?_,by rw [e]; exact a⟩
  rw [e]
  exact blt_t (allB_mem names_len x (List.mem_of_getElem? a))
theorem nod_idx {α:Type}:∀ {l:List α},l.Nodup→∀ {i j:Nat} {x:α},l[i]?=some x→l[j]?=some x→i=j
 | [],_,i,_,x,h,_=>by cases h
 | y::l,hn,0,0,x,_,_=>rfl
 | y::l,hn,0,j + 1,x,h,h'=>by
  cases h
  exact absurd (List.mem_of_getElem? (show l[j]?=some y from h')) (List.nodup_cons.mp hn).1
 | y::l,hn,i + 1,0,x,h,h'=>by
  cases h'
  exact absurd (List.mem_of_getElem? (show l[i]?=some y from h)) (List.nodup_cons.mp hn).1
 | y::l,hn,i + 1,j + 1,x,h,h'=>congrArg (· + 1) (nod_idx (List.nodup_cons.mp hn).2 (show l[i]?=some x from h) (show l[j]?=some x from h'))
theorem nm_inj (i j:Nat) (e:nmF i=nmF j):i=j:=by
 rcases nm_size (i:=i) with ⟨a1,a2,a3⟩ | ⟨a1,a2⟩ <;> rcases nm_size (i:=j) with ⟨b1,b2,b3⟩ | ⟨b1,b2⟩
 ·rw [e] at a3
  have hn:=nodS_ok names_nod
  exact nod_idx hn a3 b3
 ·rw [e,b2,pad_size] at a2; omega
 ·rw [← e,a2,pad_size] at b2; omega
 ·rw [a2,b2] at e
  have:=congrArg (fun s:Str=>s.cps.size) e
  simp only [pad_size] at this
  exact this
theorem nm_len (i:Nat) (h:i < 1000):(nmF i).length≤1000:=by
 show (nmF i).cps.size≤1000
 rcases nm_size (i:=i) with ⟨a1,a2,a3⟩ | ⟨a1,a2⟩
 ·omega
 ·rw [a2,pad_size]; omega
theorem nm_ok (i:Nat):PyData.strOk (nmF i)=true:=by
 rcases nm_size (i:=i) with ⟨a1,a2,a3⟩ | ⟨a1,a2⟩
 ·exact allB_mem names_ok _ (List.mem_of_getElem? a3)
 ·rw [a2]
  show (List.replicate i 122).toArray.all (· < 0x110000)=true
  rw [Array.all_eq_true]
  intro k hk
  simp
noncomputable def base (kt:Nat→Nat→O) (w:World) (sh:Nat):Pm:={ prog:=PySem.Challenge.rw_xm0345_01.row.prog,w:=w,K:=Kf w.params,io:=fun _=>0,raw:=fun _=>0,ka:=fun j=>((16 + sh + j:Nat):Int),nm:=nmF,gv:=fun g=>match glbT.get g with | some q=>gvOf (Kf w.params) caF faF q (gnF g) | none=>.none,ca:=caF,fa:=faF,kt:=kt sh }
variable {kt:Nat→Nat→O}
theorem base_pok (w:World) (sh:Nat) (io raw:Nat→Int) (ge:Nat→Value) (h:Num io raw):POk ((base kt w sh).alt io raw ge):=
 ⟨h,fun j=>by show (16:Int)≤((16 + sh + j:Nat):Int); omega,fun i j e=>by have e:((16 + sh + i:Nat):Int)=((16 + sh + j:Nat):Int):=e; omega,nm_inj,nm_len,nm_ok⟩
noncomputable def FnAt (P:Pm) (f:Nat) (q:F):Prop:=FnOk P (fun names cs b sts=>(mt ⟨P.nm,gnF,names,cs,[]⟩ b).ss sts=true) (P.fa f) q∨FnOkC P P.nm gnF (P.fa f) q
theorem fnQl_split (P:Params) (n:Nat):∀ (l:List F) (k:Nat),fnQl P (Hd.takeN n l) k=true→fnQl P (Hd.dropN n l) (k + n)=true→fnQl P l k=true:=by
 induction n with
 | zero=>exact fun _ _ _ h=>h
 | succ n ih=>
  intro l k
  induction l using List.casesOn with
  | nil=>exact fun _ _=>rfl
  | cons x r=>
   intro h1 h2
   have h1:(fnQ P k x && fnQl P (Hd.takeN n r) (k + 1))=true:=h1
   have h2:fnQl P (Hd.dropN n r) (k + (n + 1))=true:=h2
   show (fnQ P k x && fnQl P r (k + 1))=true
   rw [show k + (n + 1)=k + 1 + n by omega] at h2
   rw [(and2 h1).1,ih r (k + 1) (and2 h1).2 h2]
   rfl
theorem fnQl_at (P:Params) {l:List F}:∀ {k:Nat},fnQl P l k=true→∀ f q,l[f]?=some q→fnQ P (k + f) q=true:=by
 induction l with
 | nil=>intro k h f q e; exact oX e
 | cons x l ih=>
  intro k h f q e
  have h:(fnQ P k x && fnQl P l (k + 1))=true:=h
  induction f using Nat.casesOn with
  | zero=>rw [← Option.some.inj (show some x=some q from e)]; exact (and2 h).1
  | succ f=>
   have:=ih (and2 h).2 f q e
   rwa [show k + (f + 1)=k + 1 + f by omega]
theorem fq_all (P:Params):fnQl P fnL 0=true:=by
 have step:∀ k,fnQl P (Hd.takeN 5 (Hd.dropN k fnL)) k=true→fnQl P (Hd.dropN (k + 5) fnL) (k + 5)=true→fnQl P (Hd.dropN k fnL) k=true:=fun k h1 h2=>fnQl_split P 5 _ k h1 (by rw [drop_add]; exact h2)
 exact step 0 (fq_0 P) <| step 5 (fq_5 P) <| step 10 (fq_10 P) <| step 15 (fq_15 P) <| step 20 (fq_20 P) <| step 25 (fq_25 P) <| step 30 (fq_30 P) <| step 35 (fq_35 P) <| step 40 (fq_40 P) <| step 45 (fq_45 P) <| step 50 (fq_50 P) <| step 55 (fq_55 P) <| step 60 (fq_60 P) <| step 65 (fq_65 P) <| rfl
theorem fn_all (w:World) (sh:Nat) (io raw:Nat→Int) (ge:Nat→Value) (f:Nat) (q:F) (h:fnL[f]?=some q):FnAt ((base kt w sh).alt io raw ge) f q:=by
 have z:=fnQl_at w.params (fq_all w.params) f q h
 rw [Nat.zero_add] at z
 unfold fnQ at z
 induction b:Nat.beq f 67 using Bool.casesOn with
 | true=>rw [b] at z; exact .inr (fnCB_ok (P:=(base kt w sh).alt io raw ge) z)
 | false=>rw [b] at z; exact .inl (fnB_ok (P:=(base kt w sh).alt io raw ge) z)
theorem fn_len:fnL.length < 16000000:=by decide
theorem cls_len:clsL.length < 16000000:=by decide
theorem glb_len:glbL.length < 1000:=by decide
theorem cls_all (w:World) (sh:Nat) (io raw:Nat→Int) (ge:Nat→Value):ClsAll ((base kt w sh).alt io raw ge):=by
 intro c ms h
 have h:clsL[c]?=some ms:=by rw [← ofL_get clsL c cls_len]; exact h
 match c,h with
 | 0,h=>have e:=cls_0 w.params; rw [h] at e; exact clsB_ok (P:=(base kt w sh).alt io raw ge) e
 | 1,h=>have e:=cls_1 w.params; rw [h] at e; exact clsB_ok (P:=(base kt w sh).alt io raw ge) e
 | 2,h=>have e:=cls_2 w.params; rw [h] at e; exact clsB_ok (P:=(base kt w sh).alt io raw ge) e
 | 3,h=>have e:=cls_3 w.params; rw [h] at e; exact clsB_ok (P:=(base kt w sh).alt io raw ge) e
 | 4,h=>have e:=cls_4 w.params; rw [h] at e; exact clsB_ok (P:=(base kt w sh).alt io raw ge) e
 | 5,h=>have e:=cls_5 w.params; rw [h] at e; exact clsB_ok (P:=(base kt w sh).alt io raw ge) e
 | c + 6,h=>cases h
noncomputable def tB (K:Frag) (q:G) (x:Str):Bool:=match q with
 | .tab _=>(match nsIn K mainGlobals x with | some (some (.ref b))=>memB b [47,48,196] | _=>false)
 | _=>true
theorem tabs_in (P:Params):gAll (tB (Kf P)) glbL glbNs=true:=by kernel_rfl
theorem tab_47 (w:World) (sh:Nat) (io raw:Nat→Int) (ge:Nat→Value):(Kf w.params).lookup 47=some (dictOf ((rowsOf ((Kf w.params).lookup 47)).map (ent ((base kt w sh).alt io raw ge))) 14):=by kernel_rfl
theorem tab_48 (w:World) (sh:Nat) (io raw:Nat→Int) (ge:Nat→Value):(Kf w.params).lookup 48=some (dictOf ((rowsOf ((Kf w.params).lookup 48)).map (ent ((base kt w sh).alt io raw ge))) 14):=by kernel_rfl
theorem tab_196 (w:World) (sh:Nat) (io raw:Nat→Int) (ge:Nat→Value):(Kf w.params).lookup 196=some (dictOf ((rowsOf ((Kf w.params).lookup 196)).map (ent ((base kt w sh).alt io raw ge))) 126):=by kernel_rfl
theorem gn_of (g:Nat) (x:Str) (h:glbNs[g]?=some x):gnF g=x:=by
 unfold gnF; rw [nth_get,h]
theorem glbT_lt {g:Nat} {q:G} (h:glbT.get g=some q):g < 1000:=by
 have:=glb_get h (Nat.lt_trans glb_len (by decide))
 have:=(List.getElem?_eq_some_iff.mp this).1
 have:=glb_len
 omega
theorem base_gd (w:World) (sh:Nat):GdA (base kt w sh) gnF:=by
 intro io raw ge hn
 have hgv:∀ g q,glbT.get g=some q→((base kt w sh).alt io raw ge).gv g=gvOf (Kf w.params) caF faF q (gnF g):=fun g q h=>by
  show (if g < 1000 then (match glbT.get g with | some q=>gvOf (Kf w.params) caF faF q (gnF g) | none=>.none) else ge g)=_
  rw [if_pos (glbT_lt h),h]
 obtain ⟨g1,g2,g3⟩:=glb_ok (P:=(base kt w sh).alt io raw ge) (gns:=glbNs) (gn:=gnF) gn_of glb_len (glb_all w.params) hgv fun g es b h e=>by
  obtain ⟨x,a,c⟩:=gAll_get (tabs_in w.params) g _ (glb_get h (Nat.lt_trans glb_len (by decide)))
  rw [gn_of g x a] at e
  have c:(match nsIn (Kf w.params) mainGlobals x with | some (some (.ref b))=>memB b [47,48,196] | _=>false)=true:=c
  rw [show nsIn (Kf w.params) mainGlobals x=some (some (.ref b)) from e] at c
  have:=memB_mem c
  simp only [List.mem_cons,List.not_mem_nil,or_false] at this
  rcases this with rfl | rfl | rfl
  ·exact ⟨_,tab_47 w sh io raw ge⟩
  ·exact ⟨_,tab_48 w sh io raw ge⟩
  ·exact ⟨_,tab_196 w sh io raw ge⟩
 refine ⟨g1,cls_all w sh io raw ge,⟨by kernel_rfl,by kernel_rfl,by kernel_rfl,by kernel_rfl⟩,g2,g3,fun f q h=>?_⟩
 have h:fnL[f]?=some q:=by rw [← ofL_get fnL f fn_len]; exact h
 exact fn_all (kt:=kt) w sh io raw ge f q h
end
end Mine
namespace Mine
noncomputable section
noncomputable def nKt (o:O):Bool:=match o with | .kt _=>false | _=>true
noncomputable def goodO (o:O):Bool:=b3 (closO o) (nKt o) true
theorem codes_good:allB (fun l=>goodO (mkL l)) codeL=true:=by kernel_rfl
noncomputable def ktsB (sh:Nat):Bool:=allB (fun ks=>b3 (b3 (goodO (ktO sh ks 0)) (goodO (ktO sh ks 1)) (goodO (ktO sh ks 2))) (goodO (ktO sh ks 3)) (goodO (ktO sh ks 4))) ksL
theorem kts_good:b3 (b3 (ktsB 0) (ktsB 1) (ktsB 2)) (ktsB 3) true=true:=by kernel_rfl
theorem nth_mem {α:Type}:∀ {l:List α} {i:Nat} {x:α},nth l i=some x→x∈l
 | [],_,_,e=>by cases e
 | y::l,0,x,e=>by cases e; exact .head _
 | y::l,i + 1,x,e=>.tail _ (nth_mem (show nth l i=some x from e))
theorem lt4 {p:Nat→Prop} (h0:p 0) (h1:p 1) (h2:p 2) (h3:p 3):∀ sh,sh < 4→p sh
 | 0,_=>h0
 | 1,_=>h1
 | 2,_=>h2
 | 3,_=>h3
theorem ktsB_all:∀ sh,sh < 4→ktsB sh=true:=by
 obtain ⟨h1,h2,_⟩:=b3_t kts_good
 obtain ⟨a,b,c⟩:=b3_t h1
 exact lt4 a b c h2
theorem ktG_good (sh:Nat) (hs:sh < 4) (st:Nat):goodO (ktG sh st)=true:=by
 unfold ktG
 cases Nat.ble 1000 st with
 | true=>
  show goodO (match nth codeL (Nat.sub st 1000) with | some l=>mkL l | none=>.rng 0 0)=true
  cases q:nth codeL (Nat.sub st 1000) with
  | none=>rfl
  | some l=>exact allB_mem codes_good l (nth_mem q)
 | false=>
  show goodO (match nth ksL (st / 5) with | some ks=>ktO sh ks (st % 5) | none=>.rng 0 0)=true
  cases q:nth ksL (st / 5) with
  | none=>rfl
  | some ks=>
   obtain ⟨h1,h2,h3⟩:=b3_t (allB_mem (ktsB_all sh hs) ks (nth_mem q))
   obtain ⟨a,b,c⟩:=b3_t h1
   show goodO (ktO sh ks (st % 5))=true
   have:st % 5 < 5:=Nat.mod_lt _ (by decide)
   generalize st % 5=i at this
   match i,this with
   | 0,_=>exact a
   | 1,_=>exact b
   | 2,_=>exact c
   | 3,_=>exact h2
   | 4,_=>exact h3
variable {w:World} {sh d d':Nat} {P:Pm} {cf:CF}
theorem base_ktok (hs:sh < 4) (io raw:Nat→Int) (ge:Nat→Value):KtOk ((base ktG w sh).alt io raw ge):=fun st=>(b3_t (ktG_good sh hs st)).1
theorem base_ktn (hs:sh < 4) (io raw:Nat→Int) (ge:Nat→Value):KtN ((base ktG w sh).alt io raw ge):=fun st q e=>by
 have z:=(b3_t (ktG_good sh hs st)).2.1
 rw [show ktG sh st=.kt q from e] at z
 cases z
theorem base_ktok0 (hs:sh < 4):KtOk (base ktG w sh):=fun st=>(b3_t (ktG_good sh hs st)).1
theorem unC_ok (hn:KtN P) (h:∀ st,1000≤st→P.kt st=codeO (st - 1000)):UnOk P idV unC:=by
 refine ⟨fun _ _ _ _=>Iff.rfl,fun W n o a=>?_⟩
 cases o with
 | kt st=>
  show RO P W n (Bool.rec (.kt st) (codeO (Nat.sub st 1000)) (Nat.ble 1000 st)) a↔_
  cases q:Nat.ble 1000 st with
  | false=>exact Iff.rfl
  | true=>
   have e:=h st (Nat.le_of_ble_eq_true q)
   show RO P W n (codeO (st - 1000)) a↔RO1 P W n (P.kt st) a
   rw [← e]
   show RO1 P W n (P.un (P.kt st)) a↔_
   rw [notKt (hn st)]
 | _=>exact Iff.rfl
theorem base_unC (hs:sh < 4) (io raw:Nat→Int) (ge:Nat→Value):UnOk ((base ktG w sh).alt io raw ge) idV unC:=unC_ok (base_ktn hs io raw ge) fun st h=>by
 show ktG sh st=_
 unfold ktG
 rw [Nat.ble_eq_true_of_le h]
 rfl
theorem base_un (hs:sh < 4) (io raw:Nat→Int) (ge:Nat→Value):UnOk ((base ktG w sh).alt io raw ge) (unV (kaF sh)) (unO (kaF sh) (ktG sh)):=un_ok (base_ktn hs io raw ge)
theorem SndCF.up (S:SndCF P d cf) (h:d≤d'):SndCF P d' cf:=⟨fun C ok=>S.1 C (ok.low h),fun C ok=>S.2 C (ok.low h)⟩
theorem ctA_up {f:Nat} {as:List V} {hs hp:Hp} {v:V} (c:SndCtA P d f as hs hp v) (h:d≤d'):SndCtA P d' f as hs hp v:=fun io raw ge hn C ok=>c io raw ge hn C (ok.low h)
theorem cover0:∀ io:Nat→Int,∃ rs∈([[]]:List (List ((Nat×Nat×Nat)×Nat))),∀ p∈rs,Int.fmod (Int.fdiv (io p.1.1) p.1.2.1) p.1.2.2=p.2:=fun _=>⟨[],.head _,fun p hp=>absurd hp List.not_mem_nil⟩
theorem mem_addR {x:Nat×Nat×Nat} {rs:List ((Nat×Nat×Nat)×Nat)} {L:List (List ((Nat×Nat×Nat)×Nat))} (h:rs∈L):∀ {m j:Nat},j < m→((x,j)::rs)∈addR x m L
 | 0,_,hj=>absurd hj (Nat.not_lt_zero _)
 | m + 1,j,hj=>by
  have key:∀ (L:List (List ((Nat×Nat×Nat)×Nat))) (t:List (List ((Nat×Nat×Nat)×Nat))),(∀ y∈t,y∈(List.rec t (fun rs _ t=>((x,m)::rs)::t) L:List (List ((Nat×Nat×Nat)×Nat))))∧∀ rs∈L,((x,m)::rs)∈(List.rec t (fun rs _ t=>((x,m)::rs)::t) L:List (List ((Nat×Nat×Nat)×Nat))):=by
   intro L t
   induction L with
   | nil=>exact ⟨fun y hy=>hy,fun rs hrs=>absurd hrs List.not_mem_nil⟩
   | cons a L ih=>
    refine ⟨fun y hy=>.tail _ (ih.1 y hy),fun rs hrs=>?_⟩
    rcases List.mem_cons.mp hrs with rfl | hrs
    ·exact .head _
    ·exact .tail _ (ih.2 rs hrs)
  show ((x,j)::rs)∈(List.rec (addR x m L) (fun rs _ t=>((x,m)::rs)::t) L:List (List ((Nat×Nat×Nat)×Nat)))
  rcases Nat.lt_succ_iff_lt_or_eq.mp hj with hj | rfl
  ·exact (key L (addR x m L)).1 _ (mem_addR h hj)
  ·exact (key L _).2 rs h
theorem cover_rs:∀ (l:List (Nat×Nat)),allB (fun p=>Nat.blt 0 p.2) l=true→∀ io:Nat→Int,∃ rs∈rsL l,∀ p∈rs,Int.fmod (Int.fdiv (io p.1.1) p.1.2.1) p.1.2.2=p.2
 | [],_,io=>⟨[],.head _,fun p hp=>absurd hp List.not_mem_nil⟩
 | q::l,h,io=>by
  obtain ⟨h1,h2,_⟩:=b3_t (show b3 (Nat.blt 0 q.2) (allB (fun p=>Nat.blt 0 p.2) l) true=true from h)
  have hq:=blt_t h1
  obtain ⟨rs,m,k⟩:=cover_rs l h2 io
  have b1:=Int.fmod_lt_of_pos (Int.fdiv (io 0) q.1) (b:=q.2) (by omega)
  have b2:=Int.fmod_nonneg_of_pos (Int.fdiv (io 0) q.1) (b:=q.2) (by omega)
  refine ⟨((0,q.1,q.2),(Int.fmod (Int.fdiv (io 0) q.1) q.2).toNat)::rs,mem_addR m (by omega),fun p hp=>?_⟩
  rcases List.mem_cons.mp hp with rfl | hp
  ·exact (Int.toNat_of_nonneg b2).symm
  ·exact k p hp
theorem mem_mapC {k:Nat} {path:List Nat} {p:En}:∀ {l:List (Ct×Nat)},p∈mapC k path l→∃ c∈l,p.c=c.1
 | c::l,h=>by
  rcases List.mem_cons.mp (show p∈⟨k,c.1,path,c.2⟩::mapC k path l from h) with rfl | h
  ·exact ⟨c,.head _,rfl⟩
  ·obtain ⟨x,a,b⟩:=mem_mapC h; exact ⟨x,.tail _ a,b⟩
theorem mem_mapC0 {k:Nat} {p:En}:∀ {l:List Ct},p∈mapC0 k l→p.c∈l
 | c::l,h=>by
  rcases List.mem_cons.mp (show p∈⟨k,c,[],0⟩::mapC0 k l from h) with rfl | h
  ·exact .head _
  ·exact .tail _ (mem_mapC0 h)
theorem mem_mapK' {α β:Type} {f:α→β} {y:β}:∀ {l:List α},y∈mapK' f l→∃ x∈l,y=f x
 | x::l,h=>by
  rcases List.mem_cons.mp (show y∈f x::mapK' f l from h) with rfl | h
  ·exact ⟨x,.head _,rfl⟩
  ·obtain ⟨z,a,b⟩:=mem_mapK' h; exact ⟨z,.tail _ a,b⟩
theorem mem_appC {α:Type} {y:α}:∀ {a b:List α},y∈appC a b→y∈a∨y∈b
 | [],b,h=>.inr h
 | x::a,b,h=>by
  rcases List.mem_cons.mp (show y∈x::appC a b from h) with rfl | h
  ·exact .inl (.head _)
  ·exact (mem_appC h).imp (.tail _) id
theorem runs1 {c:Ct} {fv:V→V} {fo:O→O} {sl:List Nat} {f:Nat} (hB:b3 c.ok2 (runB c fv fo sl cf f []) true=true):c.ok2=true∧∀ rs∈([[]]:List (List ((Nat×Nat×Nat)×Nat))),runB c fv fo sl cf f rs=true:=by
 obtain ⟨a,b,_⟩:=b3_t hB
 exact ⟨a,fun rs hrs=>by rcases List.mem_singleton.mp hrs with rfl; exact b⟩
theorem putB_all:∀ sh,sh < 4→putB sh=true:=lt4 put_0 put_1 put_2 put_3
theorem os_put (hs:sh < 4):∀ p∈putE,p.c.ok2=true∧SndCtA (base ktG w sh) 14 putFn p.c.as p.c.hs p.c.hp p.c.v:=by
 intro p hp
 obtain ⟨c,hc,e⟩:=mem_mapC hp
 obtain ⟨x,hx,rfl⟩:=mem_mapK' hc
 rw [e]
 obtain ⟨a,b⟩:=runs1 (allB_mem (putB_all sh hs) x hx)
 exact ⟨a,ct_of_runs (calls_all (base_gd w sh) 14) (base_un hs) (base_ktok0 hs) (b3_t a).1 cover0 b⟩
theorem ors0 (hs:sh < 4):Ors (base ktG w sh) 14 os0:=by
 intro f p hp
 have hp:p∈(Bool.rec [] putE (Nat.beq f putFn):List En):=hp
 cases q:Nat.beq f putFn with
 | false=>rw [q] at hp; cases hp
 | true=>rw [q] at hp; rw [beq_t q]; exact os_put hs p hp
theorem snd1 (hs:sh < 4):∀ io raw ge,Num io raw→SndCF ((base ktG w sh).alt io raw ge) 28 cf1:=iter_all (base_gd w sh) (base_ktok0 hs) (ors0 hs) (calls_all (base_gd w sh) 14) 14
theorem ct1 (hs:sh < 4) {c:Ct} {sl:List Nat} {f:Nat} (h:b3 c.ok2 (runB c idV unC sl cf1 f []) true=true):c.ok2=true∧SndCtA (base ktG w sh) 28 f c.as c.hs c.hp c.v:=by
 obtain ⟨a,b⟩:=runs1 h
 exact ⟨a,ct_of_runs (snd1 hs) (base_unC hs) (base_ktok0 hs) (b3_t a).1 cover0 b⟩
theorem pos_all:allB (fun p:Ct×List (Nat×Nat)=>allB (fun q=>Nat.blt 0 q.2) p.2) doesP=true:=by kernel_rfl
theorem os_does (hs:sh < 4) {c:Ct} (hc:c∈doesL):c.ok2=true∧SndCtA (base ktG w sh) 28 doesFn c.as c.hs c.hp c.v:=by
 obtain ⟨p,hp,rfl⟩:=mem_mapK' hc
 obtain ⟨a,b,_⟩:=b3_t (allB_mem does_all p hp)
 exact ⟨a,ct_of_runs (snd1 hs) (base_unC hs) (base_ktok0 hs) (b3_t a).1 (cover_rs p.2 (allB_mem pos_all p hp)) (allB_mem b)⟩
theorem ors1 (hs:sh < 4):Ors (base ktG w sh) 28 os1:=by
 intro f p hp
 have hp:p∈(Bool.rec (Bool.rec (Bool.rec (Bool.rec (Bool.rec [] (mapC 0 [51,5] instL) (Nat.beq f instFn)) (mapC0 0 [ctd]) (Nat.beq f tdefFn)) (mapC0 0 bodyL) (Nat.beq f bodyFn)) (triL doesL) (Nat.beq f doesFn)) putE (Nat.beq f putFn):List En):=hp
 cases q1:Nat.beq f putFn with
 | true=>rw [q1] at hp; rw [beq_t q1]; exact ⟨(os_put (w:=w) hs p hp).1,ctA_up (os_put hs p hp).2 (by decide)⟩
 | false=>
  rw [q1] at hp
  have hp:p∈(Bool.rec (Bool.rec (Bool.rec (Bool.rec [] (mapC 0 [51,5] instL) (Nat.beq f instFn)) (mapC0 0 [ctd]) (Nat.beq f tdefFn)) (mapC0 0 bodyL) (Nat.beq f bodyFn)) (triL doesL) (Nat.beq f doesFn):List En):=hp
  cases q2:Nat.beq f doesFn with
  | true=>
   rw [q2] at hp; rw [beq_t q2]
   have hc:p.c∈doesL:=by
    rcases mem_appC (show p∈appC (mapC0 0 doesL) (appC (mapC0 1 doesL) (mapC0 2 doesL)) from hp) with h | h
    ·exact mem_mapC0 h
    ·rcases mem_appC h with h | h <;> exact mem_mapC0 h
   exact os_does hs hc
  | false=>
   rw [q2] at hp
   have hp:p∈(Bool.rec (Bool.rec (Bool.rec [] (mapC 0 [51,5] instL) (Nat.beq f instFn)) (mapC0 0 [ctd]) (Nat.beq f tdefFn)) (mapC0 0 bodyL) (Nat.beq f bodyFn):List En):=hp
   cases q3:Nat.beq f bodyFn with
   | true=>rw [q3] at hp; rw [beq_t q3]; exact ct1 hs (allB_mem body_all _ (mem_mapC0 hp))
   | false=>
    rw [q3] at hp
    have hp:p∈(Bool.rec (Bool.rec [] (mapC 0 [51,5] instL) (Nat.beq f instFn)) (mapC0 0 [ctd]) (Nat.beq f tdefFn):List En):=hp
    cases q4:Nat.beq f tdefFn with
    | true=>
     rw [q4] at hp; rw [beq_t q4]
     rw [List.mem_singleton.mp (mem_mapC0 hp)]
     exact ct1 hs ctd_ok
    | false=>
     rw [q4] at hp
     have hp:p∈(Bool.rec [] (mapC 0 [51,5] instL) (Nat.beq f instFn):List En):=hp
     cases q5:Nat.beq f instFn with
     | true=>
      rw [q5] at hp; rw [beq_t q5]
      obtain ⟨c,hc,e⟩:=mem_mapC hp
      obtain ⟨x,hx,rfl⟩:=mem_mapK' hc
      rw [e]
      exact ct1 hs (allB_mem inst_all x hx)
     | false=>rw [q5] at hp; cases hp
theorem snd2 (hs:sh < 4):∀ io raw ge,Num io raw→SndCF ((base ktG w sh).alt io raw ge) 42 (iterO os1 cf1 14):=iter_all (base_gd w sh) (base_ktok0 hs) (ors1 hs) (snd1 hs) 14
theorem loopB_all:∀ sh,sh < 4→loopB loopC (kaF sh) (ktG sh) (callF 14) wXf sh 9=true:=by
 obtain ⟨h1,h2,_⟩:=b3_t loop_all
 obtain ⟨a,b,c⟩:=b3_t h1
 exact lt4 a b c h2
theorem gd_alt {io raw:Nat→Int} {ge:Nat→Value}:GdA ((base ktG w sh).alt io raw ge) gnF:=fun io' raw' ge' hn=>by rw [alt_alt]; exact base_gd w sh io' raw' ge' hn
theorem fo_world (io raw:Nat→Int) (ge:Nat→Value):FnOk ((base ktG w sh).alt io raw ge) (fun names cs b sts=>(mt ⟨nmF,gnF,names,cs,[]⟩ b).ss sts=true) (faF 54) worldF:=fnB_ok (P:=(base ktG w sh).alt io raw ge) (show fnQ w.params 54 f54=true from (Nat.zero_add 54▸fnQl_at w.params (fq_all w.params) 54 f54 rfl))
theorem fo_law (io raw:Nat→Int) (ge:Nat→Value):FnOk ((base ktG w sh).alt io raw ge) (fun names cs b sts=>(mt ⟨(base ktG w sh).nm,gnF,names,cs,[]⟩ b).ss sts=true) (faF 68) ⟨1,8,.scons xOne (.scons xTwo lawXr)⟩:=fnB_ok (P:=(base ktG w sh).alt io raw ge) (show fnQ w.params 68 f68=true from (Nat.zero_add 68▸fnQl_at w.params (fq_all w.params) 68 f68 rfl))
theorem snd3 (w:World) (sh:Nat) (io raw:Nat→Int) (ge:Nat→Value) (hn:Num io raw) (hs:sh < 4) (hsh:Int.fmod (Int.fdiv (io 0) 1) 4=(sh:Int)):SndCF ((base ktG w sh).alt io raw ge) 44 cfT:=by
 have K:=base_ktok (w:=w) hs io raw ge
 have D':Gd ((base ktG w sh).alt io raw ge) gnF:=base_gd w sh io raw ge hn
 have O:Ors ((base ktG w sh).alt io raw ge) 28 os1:=(ors1 hs).alt
 have S:=stepW_ok (wf:=54) (os:=os1) (ih:=iterO os1 cf1 14) (d:=42) gd_alt D' K (base_ktn hs io raw ge) (b3_t loop_all).2.2 (by decide) rfl (fun io' raw' ge' hn'=>by rw [alt_alt]; exact (calls_all (base_gd w sh) 14 io' raw' ge' hn').up (by decide)) (snd2 hs io raw ge hn) hn hsh (loopB_all sh hs) (fo_world io raw ge) O (by decide)
 exact stepO_ok D' K O (by decide) S
end
end Mine
namespace Mine
noncomputable section
theorem d_some:(defOf qLaw rowL.name).isSome=true:=by kernel_rfl
noncomputable def dkLaw:DefRec×List (Str×Expr):=(defOf qLaw rowL.name).get d_some
theorem hdef_l:defOf qLaw rowL.name=some (dkLaw.1,dkLaw.2):=(Option.some_get d_some).symm
theorem hp_l:rowL.prog.theDef rowL.name=some (dkLaw.1.params,dkLaw.1.body,dkLaw.1.scope):=by kernel_rfl
theorem hk_l:kwWritten? dkLaw.1.params.kwonlyargs dkLaw.1.params.kw_defaults=some dkLaw.2:=by kernel_rfl
theorem name_l:dkLaw.1.name="law":=by kernel_rfl
theorem left_l:LeftO rowL.prog qLaw looseL XtL (fun s:Shared=>s.heap) (fun w:World=>H1 w.params) 20000:=by
 obtain ⟨M,hM,run⟩:=run_all
 exact LeftO.of_pieces (ann:=some (.ref 6)) open_l size_l run hM fun w=>funext fun os=>Prod.ext (look0 w os) (Prod.ext (seen_l w os) rfl)
theorem walk_l:WalkX qLaw looseL (fun _ _=>True) (fun s:Shared=>s.heap) (fun w:World=>H1 w.params) rowL.toRowW dkLaw.1 dkLaw.2 (fun f vs=>PySem.call f vs):=
 walk_of (base:=base ktG) (gn:=gnF) (ih:=cfT) (dd:=44) (xr:=lawXr) (lawA:=faF 68) (K:=Kf) (fun _ _=>rfl) (fun _ _=>rfl) (fun _ _=>rfl) name_l
  (fun P=>by
   intro a o e
   have m:∀ (M:Frag),M.lookup a=some o→(a,o)∈M:=by
    intro M
    induction M with
    | nil=>intro e; cases e
    | cons p M ih=>
     intro e
     obtain ⟨b,x⟩:=p
     rw [List.lookup_cons] at e
     cases w:a == b with
     | true=>rw [w] at e; cases e; rw [eq_of_beq w]; exact .head _
     | false=>rw [w] at e; exact .tail _ (ih e)
   have z:=kin_rows P
   rw [List.map_map,List.map_inj_left] at z
   exact z (a,o) (m _ e))
  law_name (fun P=>by rw [size_h]; decide) kin_small (fun w sh io raw ge hn=>base_pok w sh io raw ge hn) base_gd (fun w sh io raw ge=>fo_law io raw ge) snd3 (by decide) (by decide) runs_all
end
end Mine
namespace Mine
open TablesWhole in
theorem wm_ok {m:Module} (h1:noTwice m.scope=true) (h2:wSs holds m.scope ⟨m.scope,[],wSs gather m.scope ⟨m.scope,[],[],[],none⟩ m.scope m.body,[],none⟩ m.scope m.body=true):wModule holds m=true:=by
 show (true && (noTwice m.scope && (_ && true)))=true
 rw [h1,h2]; rfl
open TablesWhole in
theorem whole_ok {p:Program} (h1:wModule holds p.main=true) (h2:((p.modules.map fun x:_=>wModule holds x.2.2).foldr (fun a b=>a && b) true && ((p.parses.map (wParse holds)).foldr (fun a b=>a && b) true && ((p.harvested.map (wParse holds)).foldr (fun a b=>a && b) true && true)))=true):p.tablesWhole=true:=by
 show (wModule holds p.main && _)=true
 rw [h1]
 exact h2
theorem hold_fast:TablesWhole.holds=⟨fun sc n _=>PySem.W.Fast.tw15985051520779696433 sc n,fun _ _ _ ok=>ok,fun _=>true,true,false,fun a b=>a && b⟩:=by
 unfold TablesWhole.holds
 rw [PySem.W.Fast.te15985051520779696433]
theorem two_l:TablesWhole.noTwice pw.main.scope=true:=by
 rw [PySem.W.Fast.te8331962902438777018]
 kernel_rfl
theorem wss_l:TablesWhole.wSs TablesWhole.holds pw.main.scope ⟨pw.main.scope,[],TablesWhole.wSs TablesWhole.gather pw.main.scope ⟨pw.main.scope,[],[],[],none⟩ pw.main.scope pw.main.body,[],none⟩ pw.main.scope pw.main.body=true:=by
 rw [PySem.W.Fast.te16421684217811934046,PySem.W.Fast.te12652042256554560961,hold_fast]
 kernel_rfl
theorem whole_l:pw.tablesWhole=true:=whole_ok (wm_ok two_l wss_l) (by kernel_rfl)
theorem bare_l:rowL.prog.bare:=⟨rfl,rfl,rfl,rfl,rfl,whole_l⟩
noncomputable abbrev rwL:OpenLaw:=PySem.Challenge.rw_xm0345_01
theorem and_l {a b:Bool} (h1:a=true) (h2:b=true):(a && b)=true:=by rw [h1,h2]; rfl
section
open PySem.W.Fast
theorem lk_1:tw11788848310118352699 pw.main=true:=by kernel_rfl
theorem lk_2:((tw9807087744658564304 pw.main.body).isEmpty || tw12862048085361865435 (tw9807087744658564304 pw.main.body) pw.main.body)=true:=by kernel_rfl
theorem lk_3:tw8377067652309620493 pw=true:=by kernel_rfl
theorem lk_4:R.allR (tw18344453789297297638 pw) (fun n=>!tw3471404346716756564 tw14412699480532031325 n)=true:=by kernel_rfl
theorem lk_5:tw8326940854005059898 { strict:=!R.allR (tw5923862056798008813 pw.main.body) (tw3471404346716756564 tw17691160309236699985),foot:=none,bare:=R.filterR (tw13343964577679436407 pw pw.main.body) [⟨⟨[118,97,114,115]⟩⟩,⟨⟨[100,105,114]⟩⟩,⟨⟨[108,111,99,97,108,115]⟩⟩] } pw.main.body=true:=by kernel_rfl
theorem lk_6:(tw17119622794617984870 pw pw.main.body fun _ n=>tw17868728402115742887 n)=true:=by kernel_rfl
theorem lk:tw12908688711261696721 pw=true:=by
 unfold tw12908688711261696721
 exact and_l (and_l (and_l (and_l (and_l lk_1 lk_2) lk_3) lk_4) lk_5) lk_6
theorem ws_0:tw2436336058641802641 (tw2368527892694137696 rwL)=true:=by
 unfold tw2436336058641802641
 rw [show tw12908688711261696721 (tw2368527892694137696 rwL).prog=true from lk]
 kernel_rfl
theorem ws_1:tw17960256430627541270 (tw2368527892694137696 rwL)=true:=by
 unfold tw17960256430627541270
 rw [ws_0]
 kernel_rfl
theorem ws_l:rwL.wellSaid=true:=by
 rw [te9446332074065402090]
 unfold tw9446332074065402090
 refine and_l (and_l (and_l (and_l (and_l (and_l (and_l (and_l (and_l (and_l (and_l (and_l (and_l (and_l (and_l (and_l (and_l (and_l ?_ ?_) ?_) ?_) ?_) ?_) ?_) ?_) ?_) ?_) ?_) ?_) ?_) ?_) ?_) ?_) ?_) ?_) ?_
 ·exact ws_1
 all_goals kernel_rfl
end
theorem c1:chainsOk qLaw=true:=by kernel_rfl
theorem c2:opensWell rowL.prog=true:=by kernel_rfl
theorem c3:(frees rowL.toRowW && rowL.within.isEmpty)=true:=by kernel_rfl
theorem ok_l:(chainsOk qLaw && opensWell rowL.prog && (frees rowL.toRowW && rowL.within.isEmpty))=true:=by rw [c1,c2,c3]; rfl
end Mine
namespace Mine
theorem wit:rowL.toRowW.promised:=⟨[.list []],by decide +kernel,by decide +kernel⟩
theorem hwr_l:(!rowL.writes || rowL.records.isEmpty)=true:=by kernel_rfl
theorem fin_l (ws:PySem.Challenge.rw_xm0345_01.wellSaid=true) (ok:(chainsOk qLaw && opensWell rowL.prog && (frees rowL.toRowW && rowL.within.isEmpty))=true) (hb:rowL.prog.bare):PySem.Challenge.rw_xm0345_01.Holds:=
 holds_law ws fun said=>holds_openX (r:=rowL) left_l (fun _ _=>trivial) (fun _ _ _ x _=>x) hdef_l hp_l hk_l (fun _ e=>recFacts_of e) hwr_l said ok hb wit walk_l
end Mine
theorem PySem.Challenge.cw_xm0345_01_holds : PySem.Challenge.rw_xm0345_01.Holds :=
  Mine.fin_l Mine.ws_l Mine.ok_l Mine.bare_l
